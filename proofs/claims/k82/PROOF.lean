import PyProof.Rows.All
import HandS.ForMost
import HandS.Words
import HandS.Defaults
import HandS.Style
import HandS.TupAny
import HandS.TupMul
import HandS.Zip
import HandS.IsInst
import HandS.Conv
import PyProof.AutoSeq1
import HandS.More
import KE.GoesMore
import KE.GoesEnum
import PyProof.EnumMake
import PyProof.Draws
import HandS.New
import HandS.HeadHook2
import HandS.HeadHook4
import KE.KStateDown
import HandS.Head0
import HandS.Head1
import HandS.Head2
import HandS.HeadEnd
import HandS.HeadHook1
import PySem.Challenge.RW_lotthrows_k82_whole_programs_alike_by_tw
set_option Elab.async false
set_option linter.all false
set_option maxRecDepth 100000
set_option maxHeartbeats 4000000
/-! Data trees over the abstract heap: what a tree is at a value, the store of the lists and dicts that change, a step of the heap. -/
namespace Ev
open PySem PySem.Spec PyProof.Rows L2
/-- a datum: tuples and lists that never change are trees; loc n is the n-th object of the store -/
inductive D where
  | non | bl (b : Bool) | int (i : Int) | str (s : Str)
  | tup (xs : List D) | lst (xs : List D) | scr (xs : List D) | loc (n : Nat)
inductive SO where
  | lst (xs : List D) | dct (kvs : List (Key × D))
abbrev Env := List (Option D)
abbrev Sto := List SO
/-! ### trees at values -/
section
variable (K : PySem.W.Frag) (ω : List Addr) (μ : List Addr) (H : Hp)
/-- the written part's own -/
def KT (a : Addr) (xs : List V) : Prop := ∃ (o : Obj) (its : Array Value) (n : Nat), K.lookup a = some o ∧ o.cls = .type "tuple" ∧ o.data = .seq its n ∧ its.size ≤ sizeLine ∧ Vals xs its.toList
def TupAt (a : Addr) (xs : List V) : Prop := (a ∉ μ ∧ a ∉ ω ∧ Rd H a (.tup xs)) ∨ KT K a xs
def LstAt (a : Addr) (xs : List V) : Prop := a ∉ μ ∧ a ∉ ω ∧ H a = some (.lst xs)
def KL (a : Addr) (xs : List V) : Prop := ∃ (o : Obj) (its : Array Value) (n : Nat), K.lookup a = some o ∧ o.cls = .type "list" ∧ o.dict = none ∧ o.data = .seq its n ∧ its.size ≤ sizeLine ∧ Vals xs its.toList
def ScrAt (a : Addr) (xs : List V) : Prop := (a ∉ μ ∧ a ∉ ω ∧ Rd H a (.lst xs)) ∨ KL K a xs
mutual
inductive DV : D → V → Prop
  | non : DV .non .non
  | bl (b : Bool) : DV (.bl b) (.bl b)
  | int (i : Int) : DV (.int i) (.int i)
  | str (s : Str) : DV (.str s) (.str s)
  | tup {a : Addr} {ds : List D} {vs : List V} : TupAt K ω μ H a vs → ds.length ≤ sizeLine → DVs ds vs → DV (.tup ds) (.ref a)
  | lst {a : Addr} {ds : List D} {vs : List V} : LstAt ω μ H a vs → ds.length ≤ sizeLine → DVs ds vs → DV (.lst ds) (.ref a)
  | scr {a : Addr} {ds : List D} {vs : List V} : ScrAt K ω μ H a vs → ds.length ≤ sizeLine → DVs ds vs → DV (.scr ds) (.ref a)
  | loc {a : Addr} {n : Nat} : μ[n]? = some a → DV (.loc n) (.ref a)
inductive DVs : List D → List V → Prop
  | nil : DVs [] []
  | cons {d : D} {v : V} {ds : List D} {vs : List V} : DV d v → DVs ds vs → DVs (d :: ds) (v :: vs)
end
end
section
variable {K : PySem.W.Frag} {ω μ μ' : List Addr} {H H' : Hp} {a : Addr} {xs : List V}
theorem TupAt.sq (h : TupAt K ω μ H a xs) : SqT K H a xs := h.elim (fun x => .inl x.2.2) .inr
theorem LstAt.sq (h : LstAt ω μ H a xs) : SqL K H a xs := .inl (.inl h.2.2)
theorem ScrAt.sq (h : ScrAt K ω μ H a xs) : SqL K H a xs := h.elim (fun x => .inl x.2.2) .inr
/-- a step: the store may grow by fresh objects; what is not the store's stays -/
structure Step (ω μ : List Addr) (H : Hp) (μ' : List Addr) (H' : Hp) : Prop where
  pre : μ <+: μ'
  new : ∀ a, a ∈ μ' → a ∉ μ → H a = none
  keep : ∀ a o, a ∉ μ → a ∉ ω → H a = some o → H' a = some o
  dom : ∀ a, H' a = none → H a = none
theorem Step.refl : Step ω μ H μ H := ⟨List.prefix_refl _, fun _ h n => absurd h n, fun _ _ _ _ h => h, fun _ h => h⟩
theorem Step.trans {μ'' : List Addr} {H'' : Hp} (s : Step ω μ H μ' H') (t : Step ω μ' H' μ'' H'') : Step ω μ H μ'' H'' where
  pre := s.pre.trans t.pre
  new := fun a h n => by
    by_cases hm : a ∈ μ'
    · exact s.new a hm n
    · exact s.dom a (t.new a h hm)
  keep := fun a o n nw h => by
    have h1 := s.keep a o n nw h
    by_cases hm : a ∈ μ'
    · rw [s.new a hm n] at h; cases h
    · exact t.keep a o hm nw h1
  dom := fun a h => s.dom a (t.dom a h)
theorem Step.nin (s : Step ω μ H μ' H') {o : HO} (n : a ∉ μ) (h : H a = some o) : a ∉ μ' := fun hm => by
  rw [s.new a hm n] at h; cases h
theorem Step.rd (s : Step ω μ H μ' H') {u : HO} (n : a ∉ μ ∧ a ∉ ω ∧ Rd H a u) : a ∉ μ' ∧ a ∉ ω ∧ Rd H' a u := by
  obtain ⟨n, nw, h⟩ := n
  rcases h with h | ⟨o, h⟩
  · exact ⟨s.nin n h, nw, .inl (s.keep a _ n nw h)⟩
  · exact ⟨s.nin n h, nw, .inr ⟨o, s.keep a _ n nw h⟩⟩
theorem TupAt.stepW (h : TupAt K ω μ H a xs) (s : Step ω μ H μ' H') : TupAt K ω μ' H' a xs := h.elim (fun x => .inl (s.rd x)) .inr
theorem LstAt.stepW (h : LstAt ω μ H a xs) (s : Step ω μ H μ' H') : LstAt ω μ' H' a xs := ⟨s.nin h.1 h.2.2, h.2.1, s.keep a _ h.1 h.2.1 h.2.2⟩
theorem ScrAt.stepW (h : ScrAt K ω μ H a xs) (s : Step ω μ H μ' H') : ScrAt K ω μ' H' a xs := h.elim (fun x => .inl (s.rd x)) .inr
theorem pre_get {μ μ' : List Addr} (h : μ <+: μ') {n : Nat} {a : Addr} (e : μ[n]? = some a) : μ'[n]? = some a := by
  obtain ⟨t, rfl⟩ := h
  rw [List.getElem?_append_left (List.getElem?_eq_some_iff.mp e).1]
  exact e
mutual
theorem DV.stepW (s : Step ω μ H μ' H') : ∀ {d : D} {v : V}, DV K ω μ H d v → DV K ω μ' H' d v
  | _, _, .non => .non
  | _, _, .bl b => .bl b
  | _, _, .int b => .int b
  | _, _, .str b => .str b
  | _, _, .tup h l x => .tup (h.stepW s) l (DVs.stepW s x)
  | _, _, .lst h l x => .lst (h.stepW s) l (DVs.stepW s x)
  | _, _, .scr h l x => .scr (h.stepW s) l (DVs.stepW s x)
  | _, _, .loc e => .loc (pre_get s.pre e)
theorem DVs.stepW (s : Step ω μ H μ' H') : ∀ {d : List D} {v : List V}, DVs K ω μ H d v → DVs K ω μ' H' d v
  | _, _, .nil => .nil
  | _, _, .cons h t => .cons (DV.stepW s h) (DVs.stepW s t)
end
theorem Step.wk (s : Step [] μ H μ' H') : Step ω μ H μ' H' := ⟨s.pre, s.new, fun a o n _ h => s.keep a o n (by simp) h, s.dom⟩
theorem Step.one {p : Addr} (s : Step [p] μ H μ' H') (hp : p ∈ ω) : Step ω μ H μ' H' := ⟨s.pre, s.new, fun a o n w h => s.keep a o n (fun z => w (by rw [List.mem_singleton.mp z]; exact hp)) h, s.dom⟩
theorem TupAt.step (h : TupAt K ω μ H a xs) (s : Step [] μ H μ' H') : TupAt K ω μ' H' a xs := h.stepW s.wk
theorem LstAt.step (h : LstAt ω μ H a xs) (s : Step [] μ H μ' H') : LstAt ω μ' H' a xs := h.stepW s.wk
theorem ScrAt.step (h : ScrAt K ω μ H a xs) (s : Step [] μ H μ' H') : ScrAt K ω μ' H' a xs := h.stepW s.wk
theorem DV.step {d : D} {v : V} (h : DV K ω μ H d v) (s : Step [] μ H μ' H') : DV K ω μ' H' d v := DV.stepW s.wk h
theorem DVs.step {d : List D} {v : List V} (h : DVs K ω μ H d v) (s : Step [] μ H μ' H') : DVs K ω μ' H' d v := DVs.stepW s.wk h
theorem DVs.length : ∀ {ds : List D} {vs : List V}, DVs K ω μ H ds vs → ds.length = vs.length
  | _, _, .nil => rfl
  | _, _, .cons _ t => by simp [DVs.length t]
theorem DVs.get : ∀ {ds : List D} {vs : List V} {i : Nat} {d : D}, DVs K ω μ H ds vs → ds[i]? = some d → ∃ v, vs[i]? = some v ∧ DV K ω μ H d v
  | _, _, _, _, .nil, e => by simp at e
  | _, _, 0, _, .cons h _, e => by simp at e; subst e; exact ⟨_, rfl, h⟩
  | _, _, i + 1, _, .cons _ t, e => by
    obtain ⟨v, e1, h⟩ := DVs.get (i := i) t (by simpa using e)
    exact ⟨v, by simpa using e1, h⟩
theorem DVs.append : ∀ {ds es : List D} {vs ws : List V}, DVs K ω μ H ds vs → DVs K ω μ H es ws → DVs K ω μ H (ds ++ es) (vs ++ ws)
  | _, _, _, _, .nil, s => s
  | _, _, _, _, .cons h t, s => .cons h (DVs.append t s)
theorem DVs.drop : ∀ {ds : List D} {vs : List V} (n : Nat), DVs K ω μ H ds vs → DVs K ω μ H (ds.drop n) (vs.drop n)
  | _, _, 0, h => h
  | _, _, _ + 1, .nil => .nil
  | _, _, n + 1, .cons _ t => DVs.drop n t
theorem DVs.take : ∀ {ds : List D} {vs : List V} (n : Nat), DVs K ω μ H ds vs → DVs K ω μ H (ds.take n) (vs.take n)
  | _, _, 0, _ => .nil
  | _, _, _ + 1, .nil => .nil
  | _, _, n + 1, .cons h t => .cons h (DVs.take n t)
theorem DVs.reverse : ∀ {ds : List D} {vs : List V}, DVs K ω μ H ds vs → DVs K ω μ H ds.reverse vs.reverse
  | _, _, .nil => .nil
  | _, _, .cons h t => by
    rw [List.reverse_cons, List.reverse_cons]
    exact (DVs.reverse t).append (.cons h .nil)
theorem DVs.set {d : D} {v : V} (h : DV K ω μ H d v) : ∀ {ds : List D} {vs : List V} (i : Nat), DVs K ω μ H ds vs → DVs K ω μ H (ds.set i d) (vs.set i v)
  | _, _, _, .nil => .nil
  | _, _, 0, .cons _ t => .cons h t
  | _, _, i + 1, .cons q t => .cons q (DVs.set h i t)
theorem DVs.rep : ∀ {ds : List D} {vs : List V} (n : Nat), DVs K ω μ H ds vs → DVs K ω μ H (List.replicate n ds).flatten (List.replicate n vs).flatten
  | _, _, 0, _ => .nil
  | _, _, n + 1, h => by
    rw [List.replicate_succ, List.replicate_succ, List.flatten_cons, List.flatten_cons]
    exact h.append (DVs.rep n h)
theorem DVs.ints : ∀ {ns : List Int} {vs : List V}, DVs K ω μ H (ns.map D.int) vs → vs = ns.map V.int
  | [], _, .nil => rfl
  | n :: ns, _, .cons h t => by
    cases h
    rw [DVs.ints t] <;> rfl
theorem DVs.of_ints : ∀ (ns : List Int), DVs K ω μ H (ns.map D.int) (ns.map V.int)
  | [] => .nil
  | n :: ns => .cons (.int n) (DVs.of_ints ns)
theorem DVs.bls : ∀ {ns : List Bool} {vs : List V}, DVs K ω μ H (ns.map D.bl) vs → vs = ns.map V.bl
  | [], _, .nil => rfl
  | n :: ns, _, .cons h t => by
    cases h
    rw [DVs.bls t] <;> rfl
end
/-! ### the store -/
/-- a dict's pairs -/
inductive DKs (K : PySem.W.Frag) (ω μ : List Addr) (H : Hp) : List (Key × D) → List (Key × V) → Prop
  | nil : DKs K ω μ H [] []
  | cons {k : Key} {d : D} {v : V} {ds : List (Key × D)} {vs : List (Key × V)} : DV K ω μ H d v → DKs K ω μ H ds vs → DKs K ω μ H ((k, d) :: ds) ((k, v) :: vs)
def OV (K : PySem.W.Frag) (ω μ : List Addr) (H : Hp) (a : Addr) : SO → Prop
  | .lst xs => ∃ vs, H a = some (.lst vs) ∧ xs.length ≤ sizeLine ∧ DVs K ω μ H xs vs
  | .dct kvs => ∃ vs, H a = some (.dK vs) ∧ kvs.length ≤ 1000 ∧ DKs K ω μ H kvs vs
structure RS (K : PySem.W.Frag) (ω μ : List Addr) (st : Sto) (H : Hp) : Prop where
  len : μ.length = st.length
  nd : μ.Nodup
  om : ∀ a, a ∈ ω → a ∉ μ ∧ ∃ u, H a = some u
  ob : ∀ (n : Nat) (o : SO), st[n]? = some o → ∃ a, μ[n]? = some a ∧ OV K ω μ H a o
section
variable {K : PySem.W.Frag} {ω μ μ' : List Addr} {H H' : Hp} {a : Addr} {st : Sto}
theorem DKs.stepW (s : Step ω μ H μ' H') : ∀ {ds : List (Key × D)} {vs : List (Key × V)}, DKs K ω μ H ds vs → DKs K ω μ' H' ds vs
  | _, _, .nil => .nil
  | _, _, .cons h t => .cons (h.stepW s) (DKs.stepW s t)
theorem DKs.step {ds : List (Key × D)} {vs : List (Key × V)} (h : DKs K ω μ H ds vs) (s : Step [] μ H μ' H') : DKs K ω μ' H' ds vs := DKs.stepW s.wk h
theorem OV.some {o : SO} (h : OV K ω μ H a o) : ∃ u, H a = some u := by
  cases o with
  | lst xs => obtain ⟨vs, e, _⟩ := h; exact ⟨_, e⟩
  | dct xs => obtain ⟨vs, e, _⟩ := h; exact ⟨_, e⟩
theorem OV.stepW {o : SO} (h : OV K ω μ H a o) (s : Step ω μ H μ' H') (e : H' a = H a) : OV K ω μ' H' a o := by
  cases o with
  | lst xs => obtain ⟨vs, h1, h2, h3⟩ := h; exact ⟨vs, e.trans h1, h2, h3.stepW s⟩
  | dct xs => obtain ⟨vs, h1, h2, h3⟩ := h; exact ⟨vs, e.trans h1, h2, h3.stepW s⟩
theorem OV.step {o : SO} (h : OV K ω μ H a o) (s : Step [] μ H μ' H') (e : H' a = H a) : OV K ω μ' H' a o := h.stepW s.wk e
theorem RS.nil : RS K [] [] [] H := ⟨rfl, List.nodup_nil, fun a h => by simp at h, fun n o e => by simp at e⟩
theorem RS.mem (r : RS K ω μ st H) (h : a ∈ μ) : ∃ u, H a = some u := by
  obtain ⟨n, hn, e⟩ := List.mem_iff_getElem.mp h
  have hl : n < st.length := by rw [← r.len]; exact hn
  obtain ⟨b, h1, h2⟩ := r.ob n _ (List.getElem?_eq_getElem hl)
  rw [List.getElem?_eq_getElem hn] at h1
  have : μ[n] = b := Option.some.inj h1
  rw [← e, this]
  exact h2.some
theorem RS.nin (r : RS K ω μ st H) (h : H a = none) : a ∉ μ := fun q => by
  obtain ⟨u, e⟩ := r.mem q
  rw [h] at e; cases e
theorem RS.nw (r : RS K ω μ st H) (h : H a = none) : a ∉ ω := fun q => by
  obtain ⟨_, u, e⟩ := r.om a q
  rw [h] at e; cases e
theorem RS.om' (r : RS K ω μ st H) (s : Step ω μ H μ' H') : ∀ a, a ∈ ω → a ∉ μ' ∧ ∃ u, H' a = some u := fun a h => by
  obtain ⟨n, u, e⟩ := r.om a h
  refine ⟨s.nin n e, ?_⟩
  cases q : H' a with
  | none => rw [s.dom a q] at e; cases e
  | some w => exact ⟨w, rfl⟩
/-- a fresh object that is no store's -/
theorem RS.fresh (r : RS K ω μ st H) {p : Addr} {o : HO} (hp : H p = none) : Step [] μ H μ (upd H p o) ∧ RS K ω μ st (upd H p o) := by
  have s : Step [] μ H μ (upd H p o) := ⟨List.prefix_refl _, fun _ h n => absurd h n, fun b u _ _ e => by rw [upd_ne (ne_of_none e hp)]; exact e, fun b e => by
    by_cases hb : b = p
    · rw [hb]; exact hp
    · rw [upd_ne hb] at e; exact e⟩
  refine ⟨s, r.len, r.nd, r.om' s.wk, fun n o' e => ?_⟩
  obtain ⟨b, h1, h2⟩ := r.ob n o' e
  refine ⟨b, h1, h2.step s ?_⟩
  obtain ⟨u, hu⟩ := h2.some
  rw [upd_ne (ne_of_none hu hp)]
/-- a fresh object of the store -/
theorem RS.grow (r : RS K ω μ st H) {p : Addr} {o : HO} {so : SO} (hp : H p = none) (h : ∀ H', Step [] μ H (μ ++ [p]) H' → H' p = some o → OV K ω (μ ++ [p]) H' p so) : Step [] μ H (μ ++ [p]) (upd H p o) ∧ RS K ω (μ ++ [p]) (st ++ [so]) (upd H p o) := by
  have s : Step [] μ H (μ ++ [p]) (upd H p o) := ⟨List.prefix_append _ _, fun b hb n => by
      rcases List.mem_append.mp hb with q | q
      · exact absurd q n
      · rw [List.mem_singleton.mp q]; exact hp, fun b u _ _ e => by rw [upd_ne (ne_of_none e hp)]; exact e, fun b e => by
    by_cases hb : b = p
    · rw [hb]; exact hp
    · rw [upd_ne hb] at e; exact e⟩
  refine ⟨s, by simp [r.len], ?_, r.om' s.wk, fun n o' e => ?_⟩
  · rw [List.nodup_append]
    exact ⟨r.nd, by simp, fun b hb c hc => by rw [List.mem_singleton.mp hc]; intro z; rw [z] at hb; exact r.nin hp hb⟩
  · by_cases hn : n < st.length
    · rw [List.getElem?_append_left hn] at e
      obtain ⟨b, h1, h2⟩ := r.ob n o' e
      refine ⟨b, pre_get s.pre h1, h2.step s ?_⟩
      obtain ⟨u, hu⟩ := h2.some
      rw [upd_ne (ne_of_none hu hp)]
    · rw [List.getElem?_append_right (by omega)] at e
      have hn2 : n = st.length := by
        by_cases z : n - st.length = 0
        · omega
        · obtain ⟨m, hm⟩ : ∃ m, n - st.length = m + 1 := ⟨n - st.length - 1, by omega⟩
          rw [hm] at e; simp at e
      subst hn2
      simp at e
      subst e
      exact ⟨p, by rw [← r.len]; simp, h _ s upd_same⟩
/-- an object of the store is changed -/
theorem RS.put (r : RS K ω μ st H) {n : Nat} {o : HO} {so : SO} (hn : μ[n]? = some a) (h : ∀ H', Step [] μ H μ H' → H' a = some o → OV K ω μ H' a so) : Step [] μ H μ (upd H a o) ∧ RS K ω μ (st.set n so) (upd H a o) := by
  have hm : a ∈ μ := List.mem_of_getElem? hn
  obtain ⟨u, hu⟩ := r.mem hm
  have s : Step [] μ H μ (upd H a o) := ⟨List.prefix_refl _, fun _ h n => absurd h n, fun b u' nb _ e => by rw [upd_ne (fun z => nb (by rw [z]; exact hm))]; exact e, fun b e => by
    by_cases hb : b = a
    · rw [hb, upd_same] at e; cases e
    · rw [upd_ne hb] at e; exact e⟩
  refine ⟨s, by simp [r.len], r.nd, r.om' s.wk, fun m o' e => ?_⟩
  by_cases hmn : n = m
  · subst hmn
    rw [List.getElem?_set_self (by rw [← r.len]; exact (List.getElem?_eq_some_iff.mp hn).1)] at e
    cases e
    exact ⟨a, hn, h _ s upd_same⟩
  · rw [List.getElem?_set_ne hmn] at e
    obtain ⟨b, h1, h2⟩ := r.ob m o' e
    refine ⟨b, h1, h2.step s ?_⟩
    rw [upd_ne]
    intro z
    subst z
    obtain ⟨l1, e1⟩ := List.getElem?_eq_some_iff.mp hn
    obtain ⟨l2, e2⟩ := List.getElem?_eq_some_iff.mp h1
    exact hmn ((List.getElem_inj r.nd).mp (e1.trans e2.symm))
/-- a fresh tuple, a fresh list as trees -/
theorem DV.tupOf (r : RS K ω μ st H) {p : Addr} {ds : List D} {vs : List V} (hp : H p = none) (hl : ds.length ≤ sizeLine) (h : DVs K ω μ H ds vs) : DV K ω μ (upd H p (.tup vs)) (.tup ds) (.ref p) :=
  .tup (.inl ⟨r.nin hp, r.nw hp, .inl upd_same⟩) hl (h.step (r.fresh hp).1)
theorem DV.lstOf (r : RS K ω μ st H) {p : Addr} {ds : List D} {vs : List V} (hp : H p = none) (hl : ds.length ≤ sizeLine) (h : DVs K ω μ H ds vs) : DV K ω μ (upd H p (.lst vs)) (.lst ds) (.ref p) :=
  .lst ⟨r.nin hp, r.nw hp, upd_same⟩ hl (h.step (r.fresh hp).1)
end
/-! ### environments -/
structure Rel (K : PySem.W.Frag) (ω μ : List Addr) (δ : Env) (st : Sto) (σ : L2.St) (H : Hp) : Prop where
  rs : RS K ω μ st H
  len : δ.length = σ.length
  env : ∀ (i : Nat) (d : D), δ[i]? = some (some d) → ∃ v, σ[i]? = some (some v) ∧ DV K ω μ H d v
section
variable {K : PySem.W.Frag} {ω μ μ' : List Addr} {H H' : Hp} {δ : Env} {st st' : Sto} {σ : L2.St}
theorem Rel.step (r : Rel K ω μ δ st σ H) (s : Step [] μ H μ' H') (rs : RS K ω μ' st' H') : Rel K ω μ' δ st' σ H' :=
  ⟨rs, r.len, fun i d e => let ⟨v, h1, h2⟩ := r.env i d e; ⟨v, h1, h2.step s⟩⟩
theorem Rel.stepW (r : Rel K ω μ δ st σ H) (s : Step ω μ H μ' H') (rs : RS K ω μ' st' H') : Rel K ω μ' δ st' σ H' :=
  ⟨rs, r.len, fun i d e => let ⟨v, h1, h2⟩ := r.env i d e; ⟨v, h1, h2.stepW s⟩⟩
theorem Rel.set (r : Rel K ω μ δ st σ H) {i : Nat} {d : D} {v : V} (h : DV K ω μ H d v) : Rel K ω μ (δ.set i (some d)) st (σ.set i (some v)) H := by
  refine ⟨r.rs, by simp [r.len], fun j e he => ?_⟩
  by_cases hij : i = j
  · subst hij
    by_cases hl : i < δ.length
    · rw [List.getElem?_set_self hl] at he
      cases he
      exact ⟨v, by rw [List.getElem?_set_self (by rw [← r.len]; exact hl)], h⟩
    · rw [List.getElem?_eq_none (by simpa using hl)] at he
      cases he
  · rw [List.getElem?_set_ne hij] at he
    obtain ⟨w, h1, h2⟩ := r.env j e he
    exact ⟨w, by rw [List.getElem?_set_ne hij]; exact h1, h2⟩
end
/-- slots forgotten -/
def wipeD (δ : Env) : List Nat → Env
  | [] => δ
  | v :: vs => (wipeD δ vs).set v none
theorem Rel.wipe {K : PySem.W.Frag} {ω μ : List Addr} {H : Hp} {δ : Env} {st : Sto} {σ : L2.St} (r : Rel K ω μ δ st σ H) : ∀ vs : List Nat, Rel K ω μ (wipeD δ vs) st (L2.wipe σ vs) H
  | [] => r
  | v :: vs => by
    have q := r.wipe vs
    refine ⟨q.rs, by simp [wipeD, L2.wipe, q.len], fun j e he => ?_⟩
    unfold wipeD at he
    by_cases hij : v = j
    · subst hij
      by_cases hl : v < (wipeD δ vs).length
      · rw [List.getElem?_set_self hl] at he; cases he
      · rw [List.getElem?_eq_none (by simpa using hl)] at he; cases he
    · rw [List.getElem?_set_ne hij] at he
      obtain ⟨w, h1, h2⟩ := q.env j e he
      exact ⟨w, by unfold L2.wipe; rw [List.getElem?_set_ne hij]; exact h1, h2⟩
end Ev
set_option Elab.async false
set_option linter.all false
set_option maxRecDepth 100000
set_option maxHeartbeats 4000000
/-! The programs' text as data, and what it comes to over trees: an evaluator. -/
namespace Ev
open PySem PySem.Spec PyProof.Rows L2
/-! ### the text -/
inductive BOp | add | sub | mul | fdiv | mod | pow | band | bor
inductive COp | eq | ne | lt | le | gt | ge | isin | notin | is | isnot
inductive Ty | int | bool | str | tuple | list
inductive B1 | len | int | tuple | list | sum | all | any | sorted
inductive B2 | max | min
inductive Mt | append | extend | insert | pop | popAt | index | count
inductive G | name (i : Nat) | tup (gs : List G)
mutual
inductive E where
  | non | bl (b : Bool) | int (i : Int) | str (s : Str)
  | var (i : Nat)
  | gl (x : Str)
  | bin (o : BOp) (a b : E)
  | cmp (o : COp) (a b : E)
  | chain (o o' : COp) (a b c : E)
  | neg (a : E) | not (a : E) | and (a b : E) | or (a b : E)
  | ite (c a b : E)
  | tup (es : Es)
  | lst (m : Bool) (es : Es)
  | dct (ks : List Str) (es : Es)
  | call (f : Nat) (es : Es)
  | callK (f : Nat) (ks : List Nat) (es : Es)
  | b1 (m : Bool) (o : B1) (a : E)
  | b2 (o : B2) (a b : E)
  | trng (m t : Bool) (a : E)
  | isi (a : E) (t : Ty)
  | ix (a i : E)
  | gdx (x : Str) (i : E)
  | dget (a : E) (k : Str)
  | sl (m : Bool) (a lo hi : E)
  | rev (m : Bool) (a : E)
  | comp (m : Bool) (own : List Nat) (g : G) (it : It) (c : E) (e : E)
  | comp2 (m : Bool) (own vs : List Nat) (g : G) (it : It) (g1 : G) (it1 : It) (c : E) (e : E)
  | meth (o : Mt) (a : E) (es : Es)
  | iteT (c a b : E)
  | skip
inductive Es where
  | nil | cons (e : E) (es : Es)
inductive It where
  | seq (a : E) | rng1 (a : E) | rng2 (a b : E) | enm (a : E) | zip (a b : E)
end
mutual
inductive S where
  | set (i : Nat) (e : E)
  | asg (g : G) (e : E)
  | par (is : List Nat) (es : Es)
  | dput (d : E) (k : Str) (e : E)
  | lput (l i e : E)
  | expr (e : E)
  | ret (e : E)
  | iff (c : E) (a b : Ss)
  | for (g : G) (it : It) (b : Ss)
  | while (c : E) (b : Ss)
  | brk | pass
  | never
inductive Ss where
  | nil | cons (s : S) (ss : Ss)
end
def Es.len : Es → Nat
  | .nil => 0
  | .cons _ es => es.len + 1
/-! ### values -/
mutual
def D.py : D → PyData
  | .non => .none
  | .bl b => .bool b
  | .int i => .int i
  | .str s => .str s
  | .tup xs => .tuple (D.pys xs)
  | .lst xs => .list (D.pys xs)
  | .scr _ => .dict []
  | .loc _ => .dict []
def D.pys : List D → List PyData
  | [] => []
  | d :: ds => d.py :: D.pys ds
end
/-- what a list of the store is, as a tree -/
def der (st : Sto) : D → D
  | .loc n => match st[n]? with
    | some (.lst xs) => .lst xs
    | _ => .loc n
  | d => d
def seqOf (st : Sto) (d : D) : Option (List D) := match der st d with
  | .tup xs => some xs
  | .lst xs => some xs
  | .scr xs => some xs
  | _ => none
def derL (st : Sto) (d : D) : Option (List D) := match der st d with
  | .lst xs => some xs
  | _ => none
def isLoc : D → Bool
  | .loc _ => true
  | _ => false
/-- == of trees -/
def deq (a b : D) : Option Bool := if SeqAt.shaped a.py && SeqAt.shaped b.py then some (PyData.eqv a.py b.py) else none
def LIM : Nat := 1000000
def P64 (i : Int) : Bool := decide (-(2 ^ 64) < i) && decide (i < 2 ^ 64)
def bop (st : Sto) : BOp → D → D → Option D
  | .add, .int i, .int j => some (.int (i + j))
  | .sub, .int i, .int j => some (.int (i - j))
  | .mul, .int i, .int j => if P64 i || P64 j then some (.int (i * j)) else none
  | .mul, .lst xs, .int j => if 0 ≤ j ∧ j ≤ 1000 ∧ xs.length * j.toNat ≤ LIM then some (.lst (List.replicate j.toNat xs).flatten) else none
  | .fdiv, .int i, .int j => if 0 < j ∧ j < 2 ^ 30 then some (.int (i / j)) else none
  | .mod, .int i, .int j => if 0 < j then some (.int (i % j)) else none
  | .pow, .int i, .int j => if i = 10 ∧ 0 ≤ j ∧ j ≤ 100 then some (.int (i ^ j.toNat)) else none
  | .band, .int i, .int j => some (.int (Builtin.bitAnd i j))
  | .bor, .int i, .int j => some (.int (Builtin.bitOr i j))
  | _, _, _ => none
/-- x in items -/
def inD (x : D) : List D → Option Bool
  | [] => some false
  | y :: ys => match deq y x, inD x ys with
    | some b, some c => some (b || c)
    | _, _ => none
def D.isNon : D → Bool
  | .non => true
  | _ => false
def D.isBl (b : Bool) : D → Bool
  | .bl c => c == b
  | _ => false
def cop (st : Sto) : COp → D → D → Option Bool
  | .eq, a, b => deq (der st a) (der st b)
  | .ne, a, b => (deq (der st a) (der st b)).map (! ·)
  | .lt, .int i, .int j => some (decide (i < j))
  | .le, .int i, .int j => some (decide (i ≤ j))
  | .gt, .int i, .int j => some (decide (j < i))
  | .ge, .int i, .int j => some (decide (j ≤ i))
  | .isin, x, b => (seqOf st b).bind (inD x)
  | .notin, x, b => ((seqOf st b).bind (inD x)).map (! ·)
  | .is, a, .non => some a.isNon
  | .isnot, a, .non => some (!a.isNon)
  | .is, a, .bl b => some (a.isBl b)
  | .isnot, a, .bl b => some (!(a.isBl b))
  | _, _, _ => none
def ints? : List D → Option (List Int)
  | [] => some []
  | .int i :: ds => (ints? ds).map (i :: ·)
  | _ :: _ => none
def bls? : List D → Option (List Bool)
  | [] => some []
  | .bl i :: ds => (bls? ds).map (i :: ·)
  | _ :: _ => none
def insI (x : Int) : List Int → List Int
  | [] => [x]
  | y :: ys => if x ≤ y then x :: y :: ys else y :: insI x ys
def sortI : List Int → List Int
  | [] => []
  | x :: xs => insI x (sortI xs)
def isiD (st : Sto) (d : D) (t : Ty) : Bool := match d, t with
  | .int _, .int => true
  | .bl _, .int => true
  | .bl _, .bool => true
  | .str _, .str => true
  | .tup _, .tuple => true
  | .lst _, .list => true
  | .scr _, .list => true
  | .loc n, .list => (match st[n]? with | some (.lst _) => true | _ => false)
  | _, _ => false
/-- a list that is made: a tree, or an object of the store -/
def mkL (m : Bool) (xs : List D) (st : Sto) : Option (D × Sto) := if xs.length ≤ LIM then some (if m then (.loc st.length, st ++ [.lst xs]) else (.lst xs, st)) else none
def b1D (m : Bool) (o : B1) (d : D) (st : Sto) : Option (D × Sto) := match o with
  | .len => (seqOf st d).map fun xs => (.int xs.length, st)
  | .int => (match d with
    | .int i => some (.int i, st)
    | .bl b => some (.int (if b then 1 else 0), st)
    | _ => none)
  | .tuple => (seqOf st d).map fun xs => (.tup xs, st)
  | .list => (seqOf st d).bind fun xs => mkL m xs st
  | .sum => (derL st d).bind fun xs => (ints? xs).map fun ns => (.int ns.sum, st)
  | .all => (derL st d).bind fun xs => (bls? xs).map fun bs => (.bl (bs.all id), st)
  | .any => (derL st d).bind fun xs => (bls? xs).map fun bs => (.bl (bs.any id), st)
  | .sorted => (derL st d).bind fun xs => (ints? xs).bind fun ns => if ns.length < 64 then mkL m ((sortI ns).map D.int) st else none
def b2D : B2 → D → D → Option D
  | .max, .int i, .int j => some (.int (if j > i then j else i))
  | .min, .int i, .int j => some (.int (if j < i then j else i))
  | _, _, _ => none
def ixD (st : Sto) (a i : D) : Option D := match i with
  | .int i => (seqOf st a).bind fun xs => atI xs i
  | _ => none
def rngD (n : Nat) : List D := (List.range n).map fun (i : Nat) => D.int (i : Int)
def rng2D (a b : Int) : List D := (List.range (b - a).toNat).map fun (i : Nat) => D.int (a + (i : Nat))
def E.isSkip : E → Bool
  | .skip => true
  | _ => false
def oint (skip : Bool) (d : D) : Option (Option Int) := if skip then some none else match d with
  | .int i => some (some i)
  | _ => none
def cutD (xs : List D) (lo hi : Option Int) : List D := (xs.drop (HT.sIx xs.length 0 lo)).take (HT.sIx xs.length xs.length hi - HT.sIx xs.length 0 lo)
def slD (m : Bool) (a : D) (lo hi : Option Int) (st : Sto) : Option (D × Sto) := match der st a with
  | .tup xs => some (.tup (cutD xs lo hi), st)
  | .lst xs => mkL m (cutD xs lo hi) st
  | .scr xs => mkL m (cutD xs lo hi) st
  | _ => none
def revD (m : Bool) (a : D) (st : Sto) : Option (D × Sto) := (derL st a).bind fun xs => mkL m xs.reverse st
def lookK : List (Key × D) → Str → Option D
  | [], _ => none
  | (k', d) :: r, k => if k' = Sum.inr k then some d else lookK r k
def putK (kvs : List (Key × D)) (k : Str) (d : D) : List (Key × D) := kvs.map fun p => if p.1 = Sum.inr k then (p.1, d) else p
def dgetD (st : Sto) (d : D) (k : Str) : Option D := match d with
  | .loc n => (match st[n]? with
    | some (.dct kvs) => lookK kvs k
    | _ => none)
  | _ => none
/-- the truth of a datum -/
def truD (st : Sto) (d : D) : Option Bool := match der st d with
  | .bl b => some b
  | .int i => some (decide (i ≠ 0))
  | .tup xs => some (!xs.isEmpty)
  | .lst xs => some (!xs.isEmpty)
  | _ => none
def isLstS (st : Sto) : D → Bool
  | .loc n => (match st[n]? with | some (.lst _) => true | _ => false)
  | _ => false
def methD (st : Sto) : Mt → D → List D → Option (D × Sto)
  | .append, .loc n, [d] => (match st[n]? with
    | some (.lst xs) => if xs.length < LIM then some (.non, st.set n (.lst (xs ++ [d]))) else none
    | _ => none)
  | .extend, .loc n, [d] => (match st[n]?, der st d with
    | some (.lst xs), .tup ys => if xs.length + ys.length ≤ LIM then some (.non, st.set n (.lst (xs ++ ys))) else none
    | some (.lst xs), .lst ys => if xs.length + ys.length ≤ LIM then some (.non, st.set n (.lst (xs ++ ys))) else none
    | _, _ => none)
  | .insert, .loc n, [.int i, d] => (match st[n]? with
    | some (.lst xs) => if xs.length < LIM ∧ 0 ≤ i ∧ i < 2 ^ 62 then some (.non, st.set n (.lst (xs.take i.toNat ++ [d] ++ xs.drop i.toNat))) else none
    | _ => none)
  | .pop, .loc n, [] => (match st[n]? with
    | some (.lst xs) => (xs[xs.length - 1]?).map fun d => (d, st.set n (.lst xs.dropLast))
    | _ => none)
  | _, _, _ => none
/-! ### targets -/
mutual
def evG : G → D → Env → Option Env
  | .name i, d, δ => some (δ.set i (some d))
  | .tup gs, .tup ds, δ => evGs gs ds δ
  | .tup _, _, _ => none
def evGs : List G → List D → Env → Option Env
  | [], [], δ => some δ
  | g :: gs, d :: ds, δ => (evG g d δ).bind (evGs gs ds)
  | _, _, _ => none
end
/-! ### the evaluator -/
structure Cfg where
  gl : Str → Option D
  gd : Str → Option (List (Str × D))
  call : Nat → List D → Sto → Option (D × Sto)
/-- the items that are walked, and what must stay true of the store meanwhile -/
structure Wk where
  items : List D
  ok : Sto → Bool
mutual
def D.same : D → D → Bool
  | .non, .non => true
  | .bl a, .bl b => a == b
  | .int a, .int b => a == b
  | .str a, .str b => decide (a = b)
  | .tup a, .tup b => D.sames a b
  | .lst a, .lst b => D.sames a b
  | .scr a, .scr b => D.sames a b
  | .loc a, .loc b => a == b
  | _, _ => false
def D.sames : List D → List D → Bool
  | [], [] => true
  | a :: as, b :: bs => D.same a b && D.sames as bs
  | _, _ => false
end
def keeps (d : D) (xs : List D) (st : Sto) : Bool := match d with
  | .loc n => (match st[n]? with
    | some (.lst ys) => D.sames xs ys
    | _ => false)
  | _ => true
def pairs (xs : List D) : List D := (List.range xs.length).zipWith (fun (i : Nat) x => D.tup [.int (i : Int), x]) xs
def evC (g : D → Env → Option Env) (c : Env → Sto → Option (D × Sto)) (e : Env → Sto → Option (D × Sto)) (ok : Sto → Bool) (δ : Env) : List D → Sto → Option (List D × Sto)
  | [], st => if ok st then some ([], st) else none
  | d :: ds, st => if ok st then
      (g d δ).bind fun δ1 => (c δ1 st).bind fun (b, st1) => match b with
        | .bl true => (e δ1 st1).bind fun (x, st2) => (evC g c e ok δ ds st2).map fun (xs, st3) => (x :: xs, st3)
        | .bl false => evC g c e ok δ ds st1
        | _ => none
    else none
def evC2 (g : D → Env → Option Env) (w : Env → Sto → Option (Wk × Sto)) (vs : List Nat) (g1 : D → Env → Option Env) (c : Env → Sto → Option (D × Sto)) (e : Env → Sto → Option (D × Sto)) (ok : Sto → Bool) (δ : Env) : List D → Sto → Option (List D × Sto)
  | [], st => if ok st then some ([], st) else none
  | d :: ds, st => if ok st then
      (g d δ).bind fun δ1 => (w δ1 st).bind fun (k, st1) => (evC g1 c e k.ok (wipeD δ1 vs) k.items st1).bind fun (xs, st2) => (evC2 g w vs g1 c e ok δ ds st2).map fun (ys, st3) => (xs ++ ys, st3)
    else none
mutual
def evE (C : Cfg) : E → Env → Sto → Option (D × Sto)
  | .non, _, st => some (.non, st)
  | .bl b, _, st => some (.bl b, st)
  | .int i, _, st => some (.int i, st)
  | .str s, _, st => some (.str s, st)
  | .var i, δ, st => match δ[i]? with
    | some (some d) => some (d, st)
    | _ => none
  | .gl x, _, st => (C.gl x).map fun d => (d, st)
  | .bin o a b, δ, st => (evE C a δ st).bind fun (x, st1) => (evE C b δ st1).bind fun (y, st2) => (bop st2 o x y).map fun d => (d, st2)
  | .cmp o a b, δ, st => (evE C a δ st).bind fun (x, st1) => (evE C b δ st1).bind fun (y, st2) => (cop st2 o x y).map fun d => (.bl d, st2)
  | .chain o o' a b c, δ, st => (evE C a δ st).bind fun (x, st1) => (evE C b δ st1).bind fun (y, st2) => (cop st2 o x y).bind fun k => if k then (evE C c δ st2).bind fun (z, st3) => (cop st3 o' y z).map fun d => (.bl d, st3) else some (.bl false, st2)
  | .neg a, δ, st => (evE C a δ st).bind fun (x, st1) => match x with
    | .int i => some (.int (-i), st1)
    | _ => none
  | .not a, δ, st => (evE C a δ st).bind fun (x, st1) => match x with
    | .bl i => some (.bl (!i), st1)
    | _ => none
  | .and a b, δ, st => (evE C a δ st).bind fun (x, st1) => match x with
    | .bl true => evE C b δ st1
    | .bl false => some (.bl false, st1)
    | _ => none
  | .or a b, δ, st => (evE C a δ st).bind fun (x, st1) => match x with
    | .bl true => some (.bl true, st1)
    | .bl false => evE C b δ st1
    | _ => none
  | .ite c a b, δ, st => (evE C c δ st).bind fun (x, st1) => match x with
    | .bl true => evE C a δ st1
    | .bl false => evE C b δ st1
    | _ => none
  | .tup es, δ, st => (evEs C es δ st).map fun (xs, st1) => (.tup xs, st1)
  | .lst m es, δ, st => (evEs C es δ st).bind fun (xs, st1) => mkL m xs st1
  | .dct ks es, δ, st => (evEs C es δ st).bind fun (xs, st1) => if ks.length = xs.length ∧ ks.length ≤ 10 ∧ ks.Nodup ∧ 0 < ks.length then some (.loc st1.length, st1 ++ [.dct (ks.map Sum.inr |>.zip xs)]) else none
  | .call f es, δ, st => (evEs C es δ st).bind fun (xs, st1) => C.call f xs st1
  | .callK f ks es, δ, st => (evEs C es δ st).bind fun (xs, st1) => C.call f (ks.filterMap (xs[·]?)) st1
  | .b1 m o a, δ, st => (evE C a δ st).bind fun (x, st1) => b1D m o x st1
  | .b2 o a b, δ, st => (evE C a δ st).bind fun (x, st1) => (evE C b δ st1).bind fun (y, st2) => (b2D o x y).map fun d => (d, st2)
  | .trng m t a, δ, st => (evE C a δ st).bind fun (x, st1) => match x with
    | .int i => if 0 ≤ i ∧ i ≤ LIM then (if t then some (.tup (rngD i.toNat), st1) else mkL m (rngD i.toNat) st1) else none
    | _ => none
  | .isi a t, δ, st => (evE C a δ st).map fun (x, st1) => (.bl (isiD st1 x t), st1)
  | .ix a i, δ, st => (evE C a δ st).bind fun (x, st1) => (evE C i δ st1).bind fun (y, st2) => (ixD st2 x y).map fun d => (d, st2)
  | .gdx x i, δ, st => (evE C i δ st).bind fun (y, st1) => match y with
    | .str s => ((C.gd x).bind fun kvs => kvs.lookup s).map fun d => (d, st1)
    | _ => none
  | .dget a k, δ, st => (evE C a δ st).bind fun (x, st1) => (dgetD st1 x k).map fun d => (d, st1)
  | .sl m a lo hi, δ, st => (evE C a δ st).bind fun (x, st1) => (evE C lo δ st1).bind fun (y, st2) => (evE C hi δ st2).bind fun (z, st3) => (oint lo.isSkip y).bind fun l => (oint hi.isSkip z).bind fun h => slD m x l h st3
  | .rev m a, δ, st => (evE C a δ st).bind fun (x, st1) => revD m x st1
  | .comp m own g it c e, δ, st => (evI C it δ st).bind fun (w, st1) => (evC (evG g) (evE C c) (evE C e) w.ok (wipeD δ own) w.items st1).bind fun (xs, st2) => mkL m xs st2
  | .comp2 m own vs g it g1 it1 c e, δ, st => (evI C it δ st).bind fun (w, st1) => (evC2 (evG g) (evI C it1) vs (evG g1) (evE C c) (evE C e) w.ok (wipeD δ own) w.items st1).bind fun (xs, st2) => mkL m xs st2
  | .meth o a es, δ, st => (evE C a δ st).bind fun (x, st1) => if isLstS st1 x then (evEs C es δ st1).bind fun (xs, st2) => methD st2 o x xs else none
  | .iteT c a b, δ, st => (evE C c δ st).bind fun (x, st1) => match truD st1 x with
    | some true => evE C a δ st1
    | some false => evE C b δ st1
    | none => none
  | .skip, _, st => some (.non, st)
def evEs (C : Cfg) : Es → Env → Sto → Option (List D × Sto)
  | .nil, _, st => some ([], st)
  | .cons e es, δ, st => (evE C e δ st).bind fun (x, st1) => (evEs C es δ st1).map fun (xs, st2) => (x :: xs, st2)
def evI (C : Cfg) : It → Env → Sto → Option (Wk × Sto)
  | .seq a, δ, st => (evE C a δ st).bind fun (x, st1) => (seqOf st1 x).map fun xs => (⟨xs, keeps x xs⟩, st1)
  | .rng1 a, δ, st => (evE C a δ st).bind fun (x, st1) => match x with
    | .int i => if -(LIM : Int) ≤ i ∧ i ≤ LIM then some (⟨rngD i.toNat, fun _ => true⟩, st1) else none
    | _ => none
  | .rng2 a b, δ, st => (evE C a δ st).bind fun (x, st1) => (evE C b δ st1).bind fun (y, st2) => match x, y with
    | .int i, .int j => if -(LIM : Int) ≤ i ∧ i ≤ LIM ∧ -(LIM : Int) ≤ j ∧ j ≤ LIM then some (⟨rng2D i j, fun _ => true⟩, st2) else none
    | _, _ => none
  | .enm a, δ, st => (evE C a δ st).bind fun (x, st1) => (seqOf st1 x).map fun xs => (⟨pairs xs, keeps x xs⟩, st1)
  | .zip a b, δ, st => (evE C a δ st).bind fun (x, st1) => (evE C b δ st1).bind fun (y, st2) => match x, y with
    | .tup xs, .tup ys => some (⟨xs.zipWith (fun x y => .tup [x, y]) ys, fun _ => true⟩, st2)
    | .lst xs, .lst ys => some (⟨xs.zipWith (fun x y => .tup [x, y]) ys, fun _ => true⟩, st2)
    | _, _ => none
end
inductive Fl | nx | rt (d : D) | bk
def evFor (g : D → Env → Option Env) (b : Env → Sto → Option (Fl × Env × Sto)) (ok : Sto → Bool) : List D → Env → Sto → Option (Fl × Env × Sto)
  | [], δ, st => if ok st then some (.nx, δ, st) else none
  | d :: ds, δ, st => if ok st then (g d δ).bind fun δ1 => (b δ1 st).bind fun (f, δ2, st2) => match f with
      | .nx => evFor g b ok ds δ2 st2
      | .bk => some (.nx, δ2, st2)
      | .rt r => some (.rt r, δ2, st2)
    else none
def evWh (c : Env → Sto → Option (D × Sto)) (b : Env → Sto → Option (Fl × Env × Sto)) : Nat → Env → Sto → Option (Fl × Env × Sto)
  | 0, _, _ => none
  | n + 1, δ, st => (c δ st).bind fun (x, st1) => match x with
    | .bl true => (b δ st1).bind fun (f, δ2, st2) => (match f with
      | .nx => evWh c b n δ2 st2
      | .bk => some (.nx, δ2, st2)
      | .rt r => some (.rt r, δ2, st2))
    | .bl false => some (.nx, δ, st1)
    | _ => none
def setAll : List Nat → List D → Env → Option Env
  | [], [], δ => some δ
  | i :: is, d :: ds, δ => setAll is ds (δ.set i (some d))
  | _, _, _ => none
mutual
def evS (C : Cfg) : S → Env → Sto → Option (Fl × Env × Sto)
  | .set i e, δ, st => (evE C e δ st).map fun (x, st1) => (.nx, δ.set i (some x), st1)
  | .asg g e, δ, st => (evE C e δ st).bind fun (x, st1) => (evG g x δ).map fun δ1 => (.nx, δ1, st1)
  | .par is es, δ, st => (evEs C es δ st).bind fun (xs, st1) => (setAll is xs δ).map fun δ1 => (.nx, δ1, st1)
  | .dput d k e, δ, st => (evE C e δ st).bind fun (x, st1) => (evE C d δ st1).bind fun (y, st2) => match y with
    | .loc n => (match st2[n]? with
      | some (.dct kvs) => if (lookK kvs k).isSome then some (.nx, δ, st2.set n (.dct (putK kvs k x))) else none
      | _ => none)
    | _ => none
  | .lput l i e, δ, st => (evE C e δ st).bind fun (x, st1) => (evE C l δ st1).bind fun (y, st2) => (evE C i δ st2).bind fun (z, st3) => match y, z with
    | .loc n, .int k => (match st3[n]? with
      | some (.lst xs) => (ixN xs.length k).map fun j => (.nx, δ, st3.set n (.lst (xs.set j x)))
      | _ => none)
    | _, _ => none
  | .expr e, δ, st => (evE C e δ st).map fun (_, st1) => (.nx, δ, st1)
  | .ret e, δ, st => (evE C e δ st).map fun (x, st1) => (.rt x, δ, st1)
  | .iff c a b, δ, st => (evE C c δ st).bind fun (x, st1) => match x with
    | .bl true => evSs C a δ st1
    | .bl false => evSs C b δ st1
    | _ => none
  | .for g it b, δ, st => (evI C it δ st).bind fun (w, st1) => evFor (evG g) (evSs C b) w.ok w.items δ st1
  | .while c b, δ, st => evWh (evE C c) (evSs C b) 2000 δ st
  | .brk, δ, st => some (.bk, δ, st)
  | .pass, δ, st => some (.nx, δ, st)
  | .never, _, _ => none
def evSs (C : Cfg) : Ss → Env → Sto → Option (Fl × Env × Sto)
  | .nil, δ, st => some (.nx, δ, st)
  | .cons s ss, δ, st => (evS C s δ st).bind fun (f, δ1, st1) => match f with
    | .nx => evSs C ss δ1 st1
    | .rt d => some (.rt d, δ1, st1)
    | .bk => some (.bk, δ1, st1)
end
/-! ### defs -/
structure Df where
  nm : Str
  ps : List Str
  N : List Str
  body : Ss
mutual
def D.bel (n : Nat) : D → Bool
  | .tup xs => D.bels n xs
  | .lst xs => D.bels n xs
  | .scr xs => D.bels n xs
  | .loc m => decide (m < n)
  | _ => true
def D.bels (n : Nat) : List D → Bool
  | [] => true
  | d :: ds => D.bel n d && D.bels n ds
end
def SO.bel (n : Nat) : SO → Bool
  | .lst xs => D.bels n xs
  | .dct kvs => D.bels n (kvs.map (·.2))
def SO.same : SO → SO → Bool
  | .lst xs, .lst ys => D.sames xs ys
  | .dct xs, .dct ys => decide (xs.map (·.1) = ys.map (·.1)) && D.sames (xs.map (·.2)) (ys.map (·.2))
  | _, _ => false
def sameS : Sto → Sto → Bool
  | [], [] => true
  | a :: as, b :: bs => a.same b && sameS as bs
  | _, _ => false
/-- what a call hands out: a list that was made in it is a tree from now on -/
def outD (st st' : Sto) : D → D
  | .loc m => if st.length ≤ m then der st' (.loc m) else .loc m
  | d => d
/-- what a call leaves: its own objects are forgotten where nothing of the store names them -/
def leave (st : Sto) (d : D) (st' : Sto) : D × Sto :=
  if D.bel st.length (outD st st' d) && sameS (st'.take st.length) st then (outD st st' d, st)
  else if D.bel st.length (outD st st' d) && (st'.take st.length).all (SO.bel st.length) then (outD st st' d, st'.take st.length)
  else (d, st')
structure Prg where
  defs : List Df
  gl : Str → Option D
  gd : Str → Option (List (Str × D))
def evCall (p : Prg) : Nat → Nat → List D → Sto → Option (D × Sto)
  | 0, _, _, _ => none
  | k + 1, f, xs, st => match p.defs[f]? with
    | some d => if xs.length = d.ps.length then
        (evSs ⟨p.gl, p.gd, evCall p k⟩ d.body (xs.map some ++ List.replicate (d.N.length - xs.length) none) st).bind fun (fl, _, st') => match fl with
          | .rt r => some (leave st r st')
          | .nx => some (leave st .non st')
          | .bk => none
      else none
    | none => none
end Ev
set_option Elab.async false
set_option linter.all false
set_option maxRecDepth 100000
set_option maxHeartbeats 4000000
/-! Operators, calls of built-ins, subscripts over trees. -/
namespace Ev
open PySem PySem.Spec PyProof.Rows L2
/-- what is wanted behind: the datum d and the store st' -/
abbrev Fin (K : PySem.W.Frag) (ω μ : List Addr) (H : Hp) (d : D) (st' : Sto) (Q : VK) : Prop := ∀ μ' v H', Step [] μ H μ' H' → RS K ω μ' st' H' → DV K ω μ' H' d v → Q v H'
section
variable {K : PySem.W.Frag} {ω μ : List Addr} {H : Hp} {st : Sto} {Q : VK} {d : D} {v : V}
theorem Fin.now (q : Fin K ω μ H d st Q) (r : RS K ω μ st H) (h : DV K ω μ H d v) : Q v H := q μ v H .refl r h
theorem Fin.tup {ds : List D} {vs : List V} {p : Addr} (q : Fin K ω μ H (.tup ds) st Q) (r : RS K ω μ st H) (hl : ds.length ≤ sizeLine) (h : DVs K ω μ H ds vs) (hp : H p = none) : Q (.ref p) (upd H p (.tup vs)) :=
  q μ _ _ (r.fresh hp).1 (r.fresh hp).2 (.tupOf r hp hl h)
theorem Fin.lst {ds : List D} {vs : List V} {p : Addr} (q : Fin K ω μ H (.lst ds) st Q) (r : RS K ω μ st H) (hl : ds.length ≤ sizeLine) (h : DVs K ω μ H ds vs) (hp : H p = none) : Q (.ref p) (upd H p (.lst vs)) :=
  q μ _ _ (r.fresh hp).1 (r.fresh hp).2 (.lstOf r hp hl h)
/-- a list that is made -/
theorem Fin.mk {ds : List D} {vs : List V} {p : Addr} {m : Bool} {d : D} {st' : Sto} (e : mkL m ds st = some (d, st')) (q : Fin K ω μ H d st' Q) (r : RS K ω μ st H) (h : DVs K ω μ H ds vs) (hp : H p = none) : Q (.ref p) (upd H p (.lst vs)) := by
  unfold mkL at e
  split at e
  · rename_i hl
    have hl2 : ds.length ≤ sizeLine := by rw [sizeLine_eq]; unfold LIM at hl; omega
    cases m with
    | false =>
      simp only [Bool.false_eq_true, if_false, Option.some.injEq, Prod.mk.injEq] at e
      obtain ⟨rfl, rfl⟩ := e
      exact q.lst r hl2 h hp
    | true =>
      simp only [if_true, Option.some.injEq, Prod.mk.injEq] at e
      obtain ⟨rfl, rfl⟩ := e
      obtain ⟨s, r2⟩ := r.grow (o := .lst vs) (so := .lst ds) hp fun H' s e => ⟨vs, e, hl2, h.step s⟩
      exact q _ _ _ s r2 (.loc (by rw [← r.len]; simp))
  · cases e
theorem mkL_len {m : Bool} {ds : List D} {d : D} {st' : Sto} (e : mkL m ds st = some (d, st')) : ds.length ≤ sizeLine := by
  unfold mkL at e
  split at e
  · rename_i hl
    rw [sizeLine_eq]; unfold LIM at hl; omega
  · cases e
/-- a sequence as it stands -/
theorem seq_at {d : D} {x : V} {xs : List D} (r : RS K ω μ st H) (h : DV K ω μ H d x) (e : seqOf st d = some xs) : ∃ a vs, x = .ref a ∧ (SqL K H a vs ∨ SqT K H a vs) ∧ DVs K ω μ H xs vs ∧ xs.length ≤ sizeLine := by
  unfold seqOf at e
  cases h with
  | tup t l q => simp [der] at e; subst e; exact ⟨_, _, rfl, .inr t.sq, q, l⟩
  | lst t l q => simp [der] at e; subst e; exact ⟨_, _, rfl, .inl t.sq, q, l⟩
  | scr t l q => simp [der] at e; subst e; exact ⟨_, _, rfl, .inl t.sq, q, l⟩
  | @loc a n hm =>
    simp only [der] at e
    cases hn : st[n]? with
    | none => rw [hn] at e; simp at e
    | some o =>
      rw [hn] at e
      cases o with
      | dct _ => simp at e
      | lst ys =>
        simp at e; subst e
        obtain ⟨b, h1, vs, h2, h3, h4⟩ := r.ob n _ hn
        rw [hm] at h1; cases h1
        exact ⟨_, _, rfl, .inl (.of h2), h4, h3⟩
  | _ => simp [der] at e
/-- a list as it stands -/
theorem lst_at {d : D} {x : V} {xs : List D} (r : RS K ω μ st H) (h : DV K ω μ H d x) (e : der st d = .lst xs) : ∃ a vs, x = .ref a ∧ H a = some (.lst vs) ∧ DVs K ω μ H xs vs ∧ xs.length ≤ sizeLine := by
  cases h with
  | lst t l q => simp [der] at e; subst e; exact ⟨_, _, rfl, t.2.2, q, l⟩
  | @loc a n hm =>
    simp only [der] at e
    cases hn : st[n]? with
    | none => rw [hn] at e; simp at e
    | some o =>
      rw [hn] at e
      cases o with
      | dct _ => simp at e
      | lst ys =>
        simp at e; subst e
        obtain ⟨b, h1, vs, h2, h3, h4⟩ := r.ob n _ hn
        rw [hm] at h1; cases h1
        exact ⟨_, _, rfl, h2, h4, h3⟩
  | _ => simp [der] at e
theorem ints_of : ∀ {ds : List D} {ns : List Int}, ints? ds = some ns → ds = ns.map D.int
  | [], _, e => by simp [ints?] at e; subst e; rfl
  | .int i :: ds, ns, e => by
    simp only [ints?, Option.map_eq_some_iff] at e
    obtain ⟨m, h, rfl⟩ := e
    rw [ints_of h] <;> rfl
  | .non :: _, _, e | .bl _ :: _, _, e | .str _ :: _, _, e | .tup _ :: _, _, e | .lst _ :: _, _, e | .scr _ :: _, _, e | .loc _ :: _, _, e => by simp [ints?] at e
theorem bls_of : ∀ {ds : List D} {ns : List Bool}, bls? ds = some ns → ds = ns.map D.bl
  | [], _, e => by simp [bls?] at e; subst e; rfl
  | .bl i :: ds, ns, e => by
    simp only [bls?, Option.map_eq_some_iff] at e
    obtain ⟨m, h, rfl⟩ := e
    rw [bls_of h] <;> rfl
  | .non :: _, _, e | .int _ :: _, _, e | .str _ :: _, _, e | .tup _ :: _, _, e | .lst _ :: _, _, e | .scr _ :: _, _, e | .loc _ :: _, _, e => by simp [bls?] at e
end
/-! ### == and in -/
section
variable {K : PySem.W.Frag} {ω μ : List Addr} {H : Hp} {st : Sto}
mutual
theorem dp_of : ∀ (d : D) (v : V), DV K ω μ H d v → d.py.canLay0 = true → Dp K H v d.py
  | _, _, .non, _ => .non
  | _, _, .bl b, _ => .bl b
  | _, _, .int b, _ => .int b
  | _, _, .str b, _ => .str b
  | _, _, .tup (ds := ds) t l q, h => .tup t.sq (dps_of ds _ q h)
  | _, _, .lst (ds := ds) t l q, h => .lst t.sq (dps_of ds _ q h)
  | _, _, .scr _ _ _, h => by simp [D.py, PyData.canLay0] at h
  | _, _, .loc _, h => by simp [D.py, PyData.canLay0] at h
theorem dps_of : ∀ (ds : List D) (vs : List V), DVs K ω μ H ds vs → PyData.canLayAll0 (D.pys ds) = true → DpAll K H vs (D.pys ds)
  | _, _, .nil, _ => .nil
  | _, _, .cons (d := d) (ds := ds) h t, e => by
    have e2 : (d.py.canLay0 && PyData.canLayAll0 (D.pys ds)) = true := e
    obtain ⟨e3, e4⟩ := Bool.and_eq_true_iff.mp e2
    exact .cons (dp_of d _ h e3) (dps_of ds _ t e4)
end
/-- a tree, or the store's list as it stands -/
theorem dp_der {d : D} {x : V} (r : RS K ω μ st H) (h : DV K ω μ H d x) (e : SeqAt.shaped (der st d).py = true) : Dp K H x (der st d).py := by
  cases h with
  | @loc a n hm =>
    simp only [der] at e ⊢
    cases hn : st[n]? with
    | none => rw [hn] at e; simp [D.py, SeqAt.shaped, PyData.canLay0] at e
    | some o =>
      rw [hn] at e
      cases o with
      | dct _ => simp [D.py, SeqAt.shaped, PyData.canLay0] at e
      | lst ys =>
        simp only at e ⊢
        obtain ⟨b, h1, vs, h2, h3, h4⟩ := r.ob n _ hn
        rw [hm] at h1; cases h1
        exact .lst (.of h2) (dps_of ys _ h4 (SeqAt.canLay_of_shaped e))
  | scr _ _ _ => simp [der, D.py, SeqAt.shaped, PyData.canLay0] at e
  | non => exact .non
  | bl b => exact .bl b
  | int b => exact .int b
  | str b => exact .str b
  | tup t l q => exact dp_of _ _ (.tup t l q) (SeqAt.canLay_of_shaped e)
  | lst t l q => exact dp_of _ _ (.lst t l q) (SeqAt.canLay_of_shaped e)
theorem deq_some {a b : D} {c : Bool} (e : deq a b = some c) : SeqAt.shaped a.py = true ∧ SeqAt.shaped b.py = true ∧ PyData.eqv a.py b.py = c := by
  unfold deq at e
  split at e
  · rename_i h
    obtain ⟨h1, h2⟩ := Bool.and_eq_true_iff.mp h
    exact ⟨h1, h2, Option.some.inj e⟩
  · cases e
end
end Ev
set_option Elab.async false
set_option linter.all false
set_option maxRecDepth 100000
set_option maxHeartbeats 4000000
/-! The operators' rules over trees. -/
namespace Ev
open PySem PySem.Spec PyProof.Rows L2
def opB : BOp → Operator
  | .add => .Add | .sub => .Sub | .mul => .Mult | .fdiv => .FloorDiv | .mod => .Mod | .pow => .Pow | .band => .BitAnd | .bor => .BitOr
def opC : COp → CmpOp
  | .eq => .Eq | .ne => .NotEq | .lt => .Lt | .le => .LtE | .gt => .Gt | .ge => .GtE | .isin => .In | .notin => .NotIn | .is => .Is | .isnot => .IsNot
def rB (K : PySem.W.Frag) (o : BOp) : R2 := fun x y H Q => ∃ ω μ st a b d, RS K ω μ st H ∧ DV K ω μ H a x ∧ DV K ω μ H b y ∧ bop st o a b = some d ∧ Fin K ω μ H d st Q
def rC (K : PySem.W.Frag) (o : COp) : R2 := fun x y H Q => ∃ ω μ st a b d, RS K ω μ st H ∧ DV K ω μ H a x ∧ DV K ω μ H b y ∧ cop st o a b = some d ∧ Q (.bl d) H
section
variable {X : Cx}
theorem okB (o : BOp) : OpR X (binaryOp (opB o)) (rB X.K o) := by
  intro pins s σ H x y v u Q I rx ry h
  obtain ⟨ω, μ, st, a, b, d, r, ha, hb, e, q⟩ := h
  have nn : ∀ {i : Int}, d = .int i → Q (.int i) H := fun z => by subst z; exact q.now r (.int _)
  cases o <;> cases ha <;> cases hb <;> simp only [bop, reduceCtorEq] at e
  case add.int.int i j => exact op_add pins s σ H _ _ v u Q I rx ry ⟨_, _, rfl, rfl, nn (Option.some.inj e).symm⟩
  case sub.int.int i j => exact op_sub pins s σ H _ _ v u Q I rx ry ⟨_, _, rfl, rfl, nn (Option.some.inj e).symm⟩
  case mul.int.int i j =>
    split at e
    · rename_i h
      refine op_mul pins s σ H _ _ v u Q I rx ry ⟨_, _, rfl, rfl, ?_, nn (Option.some.inj e).symm⟩
      simp only [P64, Bool.or_eq_true, Bool.and_eq_true, decide_eq_true_eq] at h
      exact h
    · cases e
  case mul.lst.int a ds vs t l q2 j =>
    split at e
    · rename_i h
      obtain ⟨h1, h2, h3⟩ := h
      obtain rfl : D.lst (List.replicate j.toNat ds).flatten = d := Option.some.inj e
      have h4 := q2.length
      refine op_rep pins s σ H _ _ v u Q I rx ry ⟨_, _, _, rfl, rfl, t.2.2, by omega, by omega, ?_, fun p hp => ?_⟩
      · rw [← h4, sizeLine_eq]; unfold LIM at h3; omega
      · refine q.lst r ?_ (q2.rep _) hp
        rw [List.length_flatten, List.map_replicate, List.sum_replicate_nat, sizeLine_eq]
        unfold LIM at h3
        have := Nat.mul_comm j.toNat ds.length
        omega
    · cases e
  case fdiv.int.int i j =>
    split at e
    · rename_i h
      exact op_fdiv pins s σ H _ _ v u Q I rx ry ⟨_, _, rfl, rfl, ⟨h.1, by have := h.2; omega⟩, nn (Option.some.inj e).symm⟩
    · cases e
  case mod.int.int i j =>
    split at e
    · rename_i h
      exact op_mod pins s σ H _ _ v u Q I rx ry ⟨_, _, rfl, rfl, h, nn (Option.some.inj e).symm⟩
    · cases e
  case pow.int.int i j =>
    split at e
    · rename_i h
      obtain ⟨h1, h2, h3⟩ := h
      subst h1
      exact op_pow pins s σ H _ _ v u Q I rx ry ⟨_, _, rfl, rfl, ⟨h2, by omega, by decide⟩, nn (Option.some.inj e).symm⟩
    · cases e
  case band.int.int i j => exact op_and pins s σ H _ _ v u Q I rx ry ⟨_, _, rfl, rfl, nn (Option.some.inj e).symm⟩
  case bor.int.int i j => exact op_or pins s σ H _ _ v u Q I rx ry ⟨_, _, rfl, rfl, nn (Option.some.inj e).symm⟩
theorem inD_some {x : D} : ∀ {xs : List D} {c : Bool}, inD x xs = some c → PyData.canLayAll0 (D.pys xs) = true ∧ (xs ≠ [] → SeqAt.shaped x.py = true) ∧ ((D.pys xs).any fun y => PyData.eqv y x.py) = c
  | [], c, e => ⟨rfl, fun h => absurd rfl h, by simpa [inD, D.pys] using Option.some.inj e⟩
  | y :: ys, c, e => by
    unfold inD at e
    split at e
    · rename_i b c' h1 h2
      obtain ⟨k1, k2, k3⟩ := deq_some h1
      obtain ⟨i1, i2, i3⟩ := inD_some h2
      refine ⟨?_, fun _ => k2, ?_⟩
      · show (y.py.canLay0 && PyData.canLayAll0 (D.pys ys)) = true
        rw [i1, SeqAt.canLay_of_shaped k1] <;> rfl
      · show ((y.py :: D.pys ys).any fun y => PyData.eqv y x.py) = c
        rw [List.any_cons, k3, i3]
        exact Option.some.inj e
    · cases e
end
end Ev
set_option Elab.async false
set_option linter.all false
set_option maxRecDepth 100000
set_option maxHeartbeats 4000000
/-! Comparisons over trees. -/
namespace Ev
open PySem PySem.Spec PyProof.Rows L2
section
variable {X : Cx}
theorem is_bl {v : Value} {x : V} {b : Bool} {A : Around} {E : Value → Shared → Prop} {s : Shared} {Q : Value → Shared → Prop} (rx : RelV x v) (h : Q (.bool (decide (x = .bl b))) s) :
    wpAny (model X.prog X.w) A (compareOp .Is v (.bool b)) Q E s := by
  cases x with
  | bl c =>
    cases rx
    by_cases e : c = b
    · subst e; exact wpAny_is_self rfl (by simpa using h)
    · exact wpAny_is_other rfl (fun z => e (Value.bool.inj z)) (by simpa [e] using h)
  | non => cases rx; exact wpAny_is_other rfl (fun z => nomatch z) (by simpa using h)
  | int _ => obtain ⟨t, rfl⟩ := rx; exact wpAny_is_other rfl (fun z => nomatch z) (by simpa using h)
  | str _ => obtain ⟨t, rfl⟩ := rx; exact wpAny_is_other rfl (fun z => nomatch z) (by simpa using h)
  | byt _ => obtain ⟨t, rfl⟩ := rx; exact wpAny_is_other rfl (fun z => nomatch z) (by simpa using h)
  | flt _ => obtain ⟨t, rfl⟩ := rx; exact wpAny_is_other rfl (fun z => nomatch z) (by simpa using h)
  | ref _ => cases rx; exact wpAny_is_other rfl (fun z => nomatch z) (by simpa using h)
  | ty _ => cases rx; exact wpAny_is_other rfl (fun z => nomatch z) (by simpa using h)
theorem isnot_bl {v : Value} {x : V} {b : Bool} {A : Around} {E : Value → Shared → Prop} {s : Shared} {Q : Value → Shared → Prop} (rx : RelV x v) (h : Q (.bool (!decide (x = .bl b))) s) :
    wpAny (model X.prog X.w) A (compareOp .IsNot v (.bool b)) Q E s := by
  cases x with
  | bl c =>
    cases rx
    by_cases e : c = b
    · subst e; exact wpAny_isNot_self rfl (by simpa using h)
    · exact wpAny_isNot_other rfl (fun z => e (Value.bool.inj z)) (by simpa [e] using h)
  | non => cases rx; exact wpAny_isNot_other rfl (fun z => nomatch z) (by simpa using h)
  | int _ => obtain ⟨t, rfl⟩ := rx; exact wpAny_isNot_other rfl (fun z => nomatch z) (by simpa using h)
  | str _ => obtain ⟨t, rfl⟩ := rx; exact wpAny_isNot_other rfl (fun z => nomatch z) (by simpa using h)
  | byt _ => obtain ⟨t, rfl⟩ := rx; exact wpAny_isNot_other rfl (fun z => nomatch z) (by simpa using h)
  | flt _ => obtain ⟨t, rfl⟩ := rx; exact wpAny_isNot_other rfl (fun z => nomatch z) (by simpa using h)
  | ref _ => cases rx; exact wpAny_isNot_other rfl (fun z => nomatch z) (by simpa using h)
  | ty _ => cases rx; exact wpAny_isNot_other rfl (fun z => nomatch z) (by simpa using h)
/-- x in a sequence, by trees -/
theorem in_tree (hu : X.A.units + 65 < cLine) {neg : Bool} {pins : List (Addr × Obj)} {s : Shared} {σ : L2.St} {H : Hp} {x y : V} {v u : Value} {Q : VK} {ω μ : List Addr} {st : Sto} {a b : D} {xs : List D} {c : Bool} (I : Inv X pins σ H s) (rx : RelV x v) (ry : RelV y u)
    (r : RS X.K ω μ st H) (ha : DV X.K ω μ H a x) (hb : DV X.K ω μ H b y) (e : seqOf st b = some xs) (h : inD a xs = some c) (q : Q (.bl (if neg then !c else c)) H) :
    wpAny (model X.prog X.w) X.A (compareOp (if neg then .NotIn else .In) v u) (EP X pins σ Q) X.xe s := by
  obtain ⟨ad, vs, rfl, hs, hv, hl⟩ := seq_at r hb e
  cases ry
  obtain ⟨k1, k2, k3⟩ := inD_some h
  have hds := dps_of xs vs hv k1
  by_cases hx : xs = []
  · subst hx
    cases hv
    have hc : c = false := by simpa [inD] using (Option.some.inj h).symm
    subst hc
    cases neg <;> rcases hs with hs | hs
    · obtain ⟨its, rv, pl, _⟩ := I.list hs
      cases rv
      exact SeqAt.in_listAt (fun _ => false) pl.isList (fun w hw => by simp at hw) ⟨.bl _, H, I, rfl, by simpa using q⟩
    · obtain ⟨its, rv, pl, _⟩ := I.tuple hs
      cases rv
      exact SeqAt.in_tupleAt (fun _ => false) pl (fun w hw => by simp at hw) ⟨.bl _, H, I, rfl, by simpa using q⟩
    · obtain ⟨its, rv, pl, _⟩ := I.list hs
      cases rv
      exact SeqAt.notIn_listAt (fun _ => false) pl.isList (fun w hw => by simp at hw) ⟨.bl _, H, I, rfl, by simpa using q⟩
    · obtain ⟨its, rv, pl, _⟩ := I.tuple hs
      cases rv
      exact SeqAt.notIn_tupleAt (fun _ => false) pl (fun w hw => by simp at hw) ⟨.bl _, H, I, rfl, by simpa using q⟩
  · have sx := k2 hx
    obtain ⟨bs, r1⟩ := Dp.reads I a.py x v (dp_of a x ha (SeqAt.canLay_of_shaped sx)) rx
    have hroom : X.A.units + 1 + min (PyData.depthAll (D.pys xs)) a.py.depth < cLine := room_in_shaped sx hu
    rcases hs with hs | hs
    · obtain ⟨as, r2⟩ := Dp.reads I (.list (D.pys xs)) (.ref ad) (.ref ad) (.lst hs hds) rfl
      cases neg
      · exact SeqAt.in_list_reads r2 r1 k1 (SeqAt.canLay_of_shaped sx) hroom ⟨.bl _, H, I, rfl, by rw [k3]; simpa using q⟩
      · exact SeqAt.notIn_list_reads r2 r1 k1 (SeqAt.canLay_of_shaped sx) hroom ⟨.bl _, H, I, rfl, by rw [k3]; simpa using q⟩
    · obtain ⟨as, r2⟩ := Dp.reads I (.tuple (D.pys xs)) (.ref ad) (.ref ad) (.tup hs hds) rfl
      cases neg
      · exact SeqAt.in_tuple_reads r2 r1 k1 (SeqAt.canLay_of_shaped sx) hroom ⟨.bl _, H, I, rfl, by rw [k3]; simpa using q⟩
      · exact SeqAt.notIn_tuple_reads r2 r1 k1 (SeqAt.canLay_of_shaped sx) hroom ⟨.bl _, H, I, rfl, by rw [k3]; simpa using q⟩
theorem dv_non {K : PySem.W.Frag} {ω μ : List Addr} {H : Hp} {a : D} {x : V} (h : DV K ω μ H a x) : decide (x = .non) = a.isNon := by
  cases h <;> rfl
theorem dv_bl {K : PySem.W.Frag} {ω μ : List Addr} {H : Hp} {a : D} {x : V} {b : Bool} (h : DV K ω μ H a x) : decide (x = .bl b) = a.isBl b := by
  cases h
  case bl c => cases c <;> cases b <;> rfl
  all_goals rfl
theorem okC (hu : X.A.units + 65 < cLine) (o : COp) : OpR X (compareOp (opC o)) (rC X.K o) := by
  intro pins s σ H x y v u Q I rx ry h
  obtain ⟨ω, μ, st, a, b, d, r, ha, hb, e, q⟩ := h
  cases o
  case eq =>
    obtain ⟨h1, h2, h3⟩ := deq_some (show deq (der st a) (der st b) = some d from e)
    exact op_eqD (by omega) pins s σ H x y v u Q I rx ry ⟨_, _, dp_der r ha h1, dp_der r hb h2, h1, h2, by rw [h3]; exact q⟩
  case ne =>
    obtain ⟨c, e1, e2⟩ := Option.map_eq_some_iff.mp (show (deq (der st a) (der st b)).map (! ·) = some d from e)
    obtain ⟨h1, h2, h3⟩ := deq_some e1
    exact op_neD (by omega) pins s σ H x y v u Q I rx ry ⟨_, _, dp_der r ha h1, dp_der r hb h2, h1, h2, by rw [h3, e2]; exact q⟩
  case lt =>
    cases ha <;> cases hb <;> simp only [cop, reduceCtorEq] at e
    exact op_lt pins s σ H _ _ v u Q I rx ry ⟨_, _, rfl, rfl, by obtain rfl := Option.some.inj e; exact q⟩
  case le =>
    cases ha <;> cases hb <;> simp only [cop, reduceCtorEq] at e
    exact op_le pins s σ H _ _ v u Q I rx ry ⟨_, _, rfl, rfl, by obtain rfl := Option.some.inj e; exact q⟩
  case gt =>
    cases ha <;> cases hb <;> simp only [cop, reduceCtorEq] at e
    exact op_gt pins s σ H _ _ v u Q I rx ry ⟨_, _, rfl, rfl, by obtain rfl := Option.some.inj e; exact q⟩
  case ge =>
    cases ha <;> cases hb <;> simp only [cop, reduceCtorEq] at e
    exact op_ge pins s σ H _ _ v u Q I rx ry ⟨_, _, rfl, rfl, by obtain rfl := Option.some.inj e; exact q⟩
  case isin =>
    obtain ⟨xs, e1, e2⟩ := Option.bind_eq_some_iff.mp (show (seqOf st b).bind (inD a) = some d from e)
    exact in_tree hu (neg := false) I rx ry r ha hb e1 e2 q
  case notin =>
    obtain ⟨c, e1, e2⟩ := Option.map_eq_some_iff.mp (show ((seqOf st b).bind (inD a)).map (! ·) = some d from e)
    obtain ⟨xs, e3, e4⟩ := Option.bind_eq_some_iff.mp e1
    exact in_tree hu (neg := true) I rx ry r ha hb e3 e4 (by show Q (.bl (!c)) H; rw [e2]; exact q)
  case is =>
    cases hb <;> simp only [cop, reduceCtorEq] at e
    case non => exact op_isN pins s σ H _ _ v u Q I rx ry ⟨rfl, by rw [dv_non ha, Option.some.inj e]; exact q⟩
    case bl b =>
      cases ry
      exact is_bl rx ⟨.bl _, H, I, rfl, by rw [dv_bl ha, Option.some.inj e]; exact q⟩
  case isnot =>
    cases hb <;> simp only [cop, reduceCtorEq] at e
    case non => exact op_notN pins s σ H _ _ v u Q I rx ry ⟨rfl, by rw [dv_non ha, Option.some.inj e]; exact q⟩
    case bl b =>
      cases ry
      exact isnot_bl rx ⟨.bl _, H, I, rfl, by rw [dv_bl ha, Option.some.inj e]; exact q⟩
end
end Ev
set_option Elab.async false
set_option linter.all false
set_option maxRecDepth 100000
set_option maxHeartbeats 4000000
/-! Calls of built-ins over trees. -/
namespace Ev
open PySem PySem.Spec PyProof.Rows L2
/-! ### sorting ints -/
theorem insI_perm (x : Int) : ∀ l : List Int, (insI x l).Perm (x :: l)
  | [] => .refl _
  | y :: ys => by
    unfold insI
    split
    · exact .refl _
    · exact ((insI_perm x ys).cons y).trans (.swap x y ys)
theorem sortI_perm : ∀ l : List Int, (sortI l).Perm l
  | [] => .refl _
  | x :: xs => (insI_perm x (sortI xs)).trans ((sortI_perm xs).cons x)
theorem insI_sorted (x : Int) : ∀ l : List Int, l.Pairwise (· ≤ ·) → (insI x l).Pairwise (· ≤ ·)
  | [], _ => List.pairwise_singleton _ _
  | y :: ys, h => by
    unfold insI
    obtain ⟨h1, h2⟩ := List.pairwise_cons.mp h
    split
    · rename_i hxy
      refine List.pairwise_cons.mpr ⟨fun z hz => ?_, h⟩
      rcases List.mem_cons.mp hz with rfl | hz
      · exact hxy
      · exact Int.le_trans hxy (h1 z hz)
    · rename_i hxy
      refine List.pairwise_cons.mpr ⟨fun z hz => ?_, insI_sorted x ys h2⟩
      rcases List.mem_cons.mp ((insI_perm x ys).mem_iff.mp hz) with rfl | hz
      · omega
      · exact h1 z hz
theorem sortI_sorted : ∀ l : List Int, (sortI l).Pairwise (· ≤ ·)
  | [] => List.Pairwise.nil
  | x :: xs => insI_sorted x _ (sortI_sorted xs)
theorem sortI_eq {l m : List Int} (h1 : m.Perm l) (h2 : m.Pairwise (· ≤ ·)) : m = sortI l := PySem.W.ksm_same (h1.trans (sortI_perm l).symm) h2 (sortI_sorted l)
/-! ### one argument -/
def nmB : B1 → Str
  | .len => "len" | .int => "int" | .tuple => "tuple" | .list => "list" | .sum => "sum" | .all => "all" | .any => "any" | .sorted => "sorted"
def vB : B1 → Value
  | .len => .builtin "len" | .int => .type "int" | .tuple => .type "tuple" | .list => .type "list" | .sum => .builtin "sum" | .all => .builtin "all" | .any => .builtin "any" | .sorted => .builtin "sorted"
theorem vB_boot (o : B1) : bootBuiltins (nmB o) = some (vB o) := by cases o <;> decide +kernel
def r1 (K : PySem.W.Frag) (m : Bool) (o : B1) : List V → Hp → VK → Prop := fun vs H Q => ∃ ω μ st a x d st', vs = [x] ∧ RS K ω μ st H ∧ DV K ω μ H a x ∧ b1D m o a st = some (d, st') ∧ Fin K ω μ H d st' Q
section
variable {X : Cx}
theorem lst_of {K : PySem.W.Frag} {ω μ : List Addr} {st : Sto} {H : Hp} {a : D} {x : V} {xs : List D} (r : RS K ω μ st H) (ha : DV K ω μ H a x) (e : derL st a = some xs) :
    ∃ ad vs, x = .ref ad ∧ H ad = some (.lst vs) ∧ DVs K ω μ H xs vs ∧ xs.length ≤ sizeLine := by
  unfold derL at e
  cases hd : der st a with
  | lst ys =>
    rw [hd] at e
    obtain rfl := Option.some.inj e
    exact lst_at r ha hd
  | _ => rw [hd] at e; simp at e
theorem okF (hc : X.calm = true) (m : Bool) (o : B1) : CallR X (vB o) (r1 X.K m o) := by
  intro pins s σ H xs us Q I rv h
  obtain ⟨ω, μ, st, a, x, d, st', rfl, r, ha, e, q⟩ := h
  cases o
  case len =>
    obtain ⟨zs, e1, e2⟩ := Option.map_eq_some_iff.mp (show (seqOf st a).map (fun xs => (D.int xs.length, st)) = some (d, st') from e)
    obtain ⟨rfl, rfl⟩ := Prod.mk.inj e2
    obtain ⟨ad, vs, rfl, hs, hv, hl⟩ := seq_at r ha e1
    refine call_len_seq pins s σ H _ us Q I rv ⟨_, _, rfl, hs, ?_⟩
    rw [← hv.length]
    exact q.now r (.int _)
  case int =>
    cases ha <;> simp only [b1D, Option.some.injEq, Prod.mk.injEq, reduceCtorEq] at e
    case int i =>
      obtain ⟨rfl, rfl⟩ := e
      exact call_int1 pins s σ H _ us Q I rv (.inl ⟨_, rfl, q.now r (.int _)⟩)
    case bl i =>
      obtain ⟨rfl, rfl⟩ := e
      exact call_int1 pins s σ H _ us Q I rv (.inr ⟨_, rfl, q.now r (.int _)⟩)
  case tuple =>
    obtain ⟨zs, e1, e2⟩ := Option.map_eq_some_iff.mp (show (seqOf st a).map (fun xs => (D.tup xs, st)) = some (d, st') from e)
    obtain ⟨rfl, rfl⟩ := Prod.mk.inj e2
    by_cases ht : ∃ ds, a = .tup ds
    · obtain ⟨ds, rfl⟩ := ht
      have hz : ds = zs := by simpa [seqOf, der] using e1
      subst hz
      have h0 := ha
      cases ha with
      | tup t l q2 => exact call_tuple_of pins s σ H _ us Q I rv ⟨_, _, rfl, .inr ⟨t.sq, q.now r h0⟩⟩
    · obtain ⟨ad, vs, rfl, hs, hv, hl⟩ := seq_at r ha e1
      rcases hs with hs | hs
      · exact call_tuple_of pins s σ H _ us Q I rv ⟨_, _, rfl, .inl ⟨hs, fun l hp => q.tup r hl hv hp⟩⟩
      · obtain ⟨its, r1, p1, _⟩ := I.tuple hs
        cases ha with
        | tup t l q2 => exact absurd ⟨_, rfl⟩ ht
        | lst t l q2 =>
          obtain ⟨its2, r2, p2, _⟩ := I.list (t.sq (K := X.K))
          obtain ⟨o1, g1, c1, _⟩ := p1
          obtain ⟨o2, _, g2, c2, _⟩ := p2
          rw [g1] at g2; cases g2
          rw [c1] at c2; exact absurd (Value.type.inj c2) (by decide)
        | scr t l q2 =>
          obtain ⟨its2, r2, p2, _⟩ := I.list (t.sq (K := X.K))
          obtain ⟨o1, g1, c1, _⟩ := p1
          obtain ⟨o2, _, g2, c2, _⟩ := p2
          rw [g1] at g2; cases g2
          rw [c1] at c2; exact absurd (Value.type.inj c2) (by decide)
        | @loc a n hm =>
          simp only [seqOf, der] at e1
          cases hn : st[n]? with
          | none => rw [hn] at e1; simp at e1
          | some o =>
            rw [hn] at e1
            cases o with
            | dct _ => simp at e1
            | lst ys =>
              obtain ⟨b, h1, ws, h2, _, _⟩ := r.ob n _ hn
              rw [hm] at h1; cases h1
              obtain ⟨its2, r2, p2, _⟩ := I.list (SqL.of (K := X.K) h2)
              obtain ⟨o1, g1, c1, _⟩ := p1
              obtain ⟨o2, _, g2, c2, _⟩ := p2
              rw [g1] at g2; cases g2
              rw [c1] at c2; exact absurd (Value.type.inj c2) (by decide)
  case list =>
    obtain ⟨zs, e1, e2⟩ := Option.bind_eq_some_iff.mp (show (seqOf st a).bind (fun xs => mkL m xs st) = some (d, st') from e)
    obtain ⟨ad, vs, rfl, hs, hv, hl⟩ := seq_at r ha e1
    exact call_list_of pins s σ H _ us Q I rv ⟨_, _, rfl, hs, fun l hp => q.mk e2 r hv hp⟩
  case sum =>
    obtain ⟨zs, e0, e1⟩ := Option.bind_eq_some_iff.mp (show (derL st a).bind (fun xs => (ints? xs).map fun ns => (D.int ns.sum, st)) = some (d, st') from e)
    obtain ⟨ad, vs, rfl, h1, h2, h3⟩ := lst_of r ha e0
    obtain ⟨ns, e2, e3⟩ := Option.map_eq_some_iff.mp e1
    obtain ⟨rfl, rfl⟩ := Prod.mk.inj e3
    obtain rfl := ints_of e2
    obtain rfl := h2.ints
    exact cr_sum hc pins s σ H _ us Q I rv ⟨_, _, rfl, .of h1, q.now r (.int _)⟩
  case all =>
    obtain ⟨zs, e0, e1⟩ := Option.bind_eq_some_iff.mp (show (derL st a).bind (fun xs => (bls? xs).map fun ns => (D.bl (ns.all id), st)) = some (d, st') from e)
    obtain ⟨ad, vs, rfl, h1, h2, h3⟩ := lst_of r ha e0
    obtain ⟨ns, e2, e3⟩ := Option.map_eq_some_iff.mp e1
    obtain ⟨rfl, rfl⟩ := Prod.mk.inj e3
    obtain rfl := bls_of e2
    obtain rfl := h2.bls
    exact cr_all hc pins s σ H _ us Q I rv ⟨_, _, rfl, .of h1, q.now r (.bl _)⟩
  case any =>
    obtain ⟨zs, e0, e1⟩ := Option.bind_eq_some_iff.mp (show (derL st a).bind (fun xs => (bls? xs).map fun ns => (D.bl (ns.any id), st)) = some (d, st') from e)
    obtain ⟨ad, vs, rfl, h1, h2, h3⟩ := lst_of r ha e0
    obtain ⟨ns, e2, e3⟩ := Option.map_eq_some_iff.mp e1
    obtain ⟨rfl, rfl⟩ := Prod.mk.inj e3
    obtain rfl := bls_of e2
    obtain rfl := h2.bls
    exact cr_any hc pins s σ H _ us Q I rv ⟨_, _, rfl, .of h1, q.now r (.bl _)⟩
  case sorted =>
    obtain ⟨zs, e0, e1⟩ := Option.bind_eq_some_iff.mp (show (derL st a).bind (fun xs => (ints? xs).bind fun ns => if ns.length < 64 then mkL m ((sortI ns).map D.int) st else none) = some (d, st') from e)
    obtain ⟨ad, vs, rfl, h1, h2, h3⟩ := lst_of r ha e0
    obtain ⟨ns, e2, e3⟩ := Option.bind_eq_some_iff.mp e1
    obtain rfl := ints_of e2
    obtain rfl := h2.ints
    split at e3
    · rename_i hl
      refine cr_sorted pins s σ H _ us Q I rv ⟨_, _, rfl, .of h1, hl, fun ms p hp hs hn => ?_⟩
      obtain rfl := sortI_eq hp hs
      exact q.mk e3 r (.of_ints _) hn
    · cases e3
/-! ### two arguments -/
def nm2 : B2 → Str
  | .max => "max" | .min => "min"
def v2 : B2 → Value
  | .max => .builtin "max" | .min => .builtin "min"
theorem v2_boot (o : B2) : bootBuiltins (nm2 o) = some (v2 o) := by cases o <;> decide +kernel
def r2 (K : PySem.W.Frag) (o : B2) : List V → Hp → VK → Prop := fun vs H Q => ∃ ω μ st a b x y d, vs = [x, y] ∧ RS K ω μ st H ∧ DV K ω μ H a x ∧ DV K ω μ H b y ∧ b2D o a b = some d ∧ Fin K ω μ H d st Q
theorem ok2 (hc : X.calm = true) (o : B2) : CallR X (v2 o) (r2 X.K o) := by
  intro pins s σ H xs us Q I rv h
  obtain ⟨ω, μ, st, a, b, x, y, d, rfl, r, ha, hb, e, q⟩ := h
  cases o <;> cases ha <;> cases hb <;> simp only [b2D, reduceCtorEq] at e
  case max.int.int i j =>
    obtain rfl := Option.some.inj e
    exact call_max2 hc pins s σ H _ us Q I rv ⟨_, _, rfl, q.now r (.int _)⟩
  case min.int.int i j =>
    obtain rfl := Option.some.inj e
    exact call_min2 hc pins s σ H _ us Q I rv ⟨_, _, rfl, q.now r (.int _)⟩
/-! ### isinstance -/
def tyN : Ty → String
  | .int => "int" | .bool => "bool" | .str => "str" | .tuple => "tuple" | .list => "list"
theorem ty_boot (t : Ty) : bootBuiltins (Str.ofString (tyN t)) = some (.type (tyN t)) := by cases t <;> decide +kernel
/-- the run's type of a datum -/
def tyD (st : Sto) : D → String
  | .non => "NoneType" | .bl _ => "bool" | .int _ => "int" | .str _ => "str" | .tup _ => "tuple" | .lst _ => "list" | .scr _ => "list"
  | .loc n => match st[n]? with
    | some (.dct _) => "dict"
    | _ => "list"
theorem tyx_of {K : PySem.W.Frag} {ω μ : List Addr} {st : Sto} {H : Hp} {a : D} {x : V} (r : RS K ω μ st H) (h : DV K ω μ H a x) (hl : ∀ n, a = .loc n → n < st.length) : TyX K H x (.type (tyD st a)) := by
  cases h with
  | non => exact .base .non
  | bl b => exact .base (.bl b)
  | int b => exact .base (.int b)
  | str b => exact .base (.str b)
  | tup t l q =>
    rcases t with ⟨_, _, t | ⟨o, t⟩⟩ | ⟨o, its, n, h1, h2, _⟩
    · exact .base (.tup t)
    · exact .fTuple t
    · exact .kTuple h1 h2
  | lst t l q => exact .base (.lst t.2.2)
  | scr t l q =>
    rcases t with ⟨_, _, t | ⟨o, t⟩⟩ | ⟨o, its, n, h1, h2, _⟩
    · exact .base (.lst t)
    · exact .base (.frz t)
    · exact .kList h1 h2
  | @loc a n hm =>
    have hn := hl n rfl
    obtain ⟨b, h1, h2⟩ := r.ob n _ (List.getElem?_eq_getElem hn)
    rw [hm] at h1; cases h1
    show TyX K H (.ref a) (.type (match st[n]? with | some (.dct _) => "dict" | _ => "list"))
    rw [List.getElem?_eq_getElem hn]
    cases ho : st[n] with
    | lst xs =>
      rw [ho] at h2
      obtain ⟨vs, h3, _⟩ := h2
      exact .base (.lst h3)
    | dct xs =>
      rw [ho] at h2
      obtain ⟨vs, h3, _⟩ := h2
      exact .base (.dK h3)
def rI (K : PySem.W.Frag) (t : Ty) : List V → Hp → VK → Prop := fun vs H Q => ∃ ω μ st a x, vs = [x, .ty (tyN t)] ∧ RS K ω μ st H ∧ DV K ω μ H a x ∧ Q (.bl (isiD st a t)) H
theorem kit_all (st : Sto) (a : D) (t : Ty) (hl : ∀ n, a = .loc n → n < st.length) : kitB (tyD st a) (tyN t) = some (isiD st a t) := by
  cases a with
  | loc n =>
    have e := List.getElem?_eq_getElem (hl n rfl)
    cases ho : st[n]'(hl n rfl) <;> rw [ho] at e <;> cases t <;> simp only [tyD, isiD, e] <;> decide +kernel
  | _ => cases t <;> simp only [tyD, isiD] <;> decide +kernel
theorem dv_loc {K : PySem.W.Frag} {ω μ : List Addr} {st : Sto} {H : Hp} {a : D} {x : V} (r : RS K ω μ st H) (h : DV K ω μ H a x) : ∀ n, a = .loc n → n < st.length := by
  rintro n rfl
  cases h with
  | loc hm => rw [← r.len]; exact (List.getElem?_eq_some_iff.mp hm).1
theorem okI (t : Ty) : CallR X (.builtin "isinstance") (rI X.K t) := by
  intro pins s σ H xs us Q I rv h
  obtain ⟨ω, μ, st, a, x, rfl, r, ha, q⟩ := h
  have hl := dv_loc r ha
  exact call_isi pins s σ H _ us Q I rv ⟨_, _, _, _, _, rfl, .ty _, tyx_of r ha hl, kit_ty (kit_all st a t hl), q⟩
end
end Ev
set_option Elab.async false
set_option linter.all false
set_option maxRecDepth 100000
set_option maxHeartbeats 4000000
/-! Subscripts, slices, methods over trees. -/
namespace Ev
open PySem PySem.Spec PyProof.Rows L2
section
variable {X : Cx}
/-! ### x[i] -/
def rX (K : PySem.W.Frag) : R2 := fun x y H Q => ∃ ω μ st a b d, RS K ω μ st H ∧ DV K ω μ H a x ∧ DV K ω μ H b y ∧ ixD st a b = some d ∧ Fin K ω μ H d st Q
theorem atI_get {α β : Type} {R : α → β → Prop} {xs : List α} {ys : List β} {i : Int} {d : α} (hl : xs.length = ys.length) (hg : ∀ (j : Nat) a, xs[j]? = some a → ∃ b, ys[j]? = some b ∧ R a b) (e : atI xs i = some d) : ∃ b, atI ys i = some b ∧ R d b := by
  unfold atI at e ⊢
  rw [← hl]
  obtain ⟨j, h1, h2⟩ := Option.bind_eq_some_iff.mp e
  obtain ⟨b, h3, h4⟩ := hg j d h2
  exact ⟨b, by rw [h1]; exact h3, h4⟩
theorem okX : IxR X (rX X.K) := by
  intro value slice pins s σ H x y v u Q I rx ry h hs
  obtain ⟨ω, μ, st, a, b, d, r, ha, hb, e, q⟩ := h
  cases hb <;> simp only [ixD, reduceCtorEq] at e
  rename_i i
  obtain ⟨xs, e1, e2⟩ := Option.bind_eq_some_iff.mp e
  obtain ⟨ad, vs, rfl, hq, hv, hl⟩ := seq_at r ha e1
  obtain ⟨z, h1, h2⟩ := atI_get (R := DV X.K ω μ H) hv.length (fun j c hc => hv.get hc) e2
  rcases hq with hq | hq
  · exact ix_list value slice pins s σ H _ _ v u Q I rx ry ⟨_, _, _, _, rfl, rfl, hq, h1, q.now r h2⟩ hs
  · exact ix_tup value slice pins s σ H _ _ v u Q I rx ry ⟨_, _, _, _, rfl, rfl, hq, h1, q.now r h2⟩ hs
/-! ### x[a:b] -/
def rS (K : PySem.W.Frag) (m : Bool) : V → Option Int → Option Int → Hp → VK → Prop := fun x lo hi H Q => ∃ ω μ st a d st', RS K ω μ st H ∧ DV K ω μ H a x ∧ slD m a lo hi st = some (d, st') ∧ Fin K ω μ H d st' Q
theorem cut_dv {K : PySem.W.Frag} {ω μ : List Addr} {H : Hp} {ds : List D} {vs : List V} (h : DVs K ω μ H ds vs) (lo hi : Option Int) : DVs K ω μ H (cutD ds lo hi) (cutV vs lo hi) := by
  unfold cutD cutV
  rw [h.length]
  exact (h.drop _).take _
theorem cutD_length (ds : List D) (lo hi : Option Int) : (cutD ds lo hi).length ≤ ds.length := by
  unfold cutD
  rw [List.length_take, List.length_drop]
  omega
theorem cutD_all {ds : List D} {lo hi : Option Int} (h : HT.sIx ds.length 0 lo = 0 ∧ HT.sIx ds.length ds.length hi = ds.length) : cutD ds lo hi = ds := by
  unfold cutD
  rw [h.1, h.2]
  simp
theorem okS (m : Bool) : SlR X (rS X.K m) := by
  intro pins s σ H x v vl vu lo hi sl Q I rx hs pl pu h
  obtain ⟨ω, μ, st, a, d, st', r, ha, e, q⟩ := h
  have h0 := ha
  cases ha with
  | tup t l q2 =>
    simp only [slD, der, Option.some.injEq, Prod.mk.injEq] at e
    obtain ⟨rfl, rfl⟩ := e
    refine sl_tupA pins s σ H _ v vl vu lo hi sl Q I rx hs pl pu ⟨_, _, rfl, t.sq, fun z => ?_, fun _ p hp => q.tup r (Nat.le_trans (cutD_length _ _ _) l) (cut_dv q2 lo hi) hp⟩
    rw [← q2.length] at z
    rw [cutD_all z] at q
    exact q.now r h0
  | lst t l q2 =>
    simp only [slD, der] at e
    exact sl_list pins s σ H _ v vl vu lo hi sl Q I rx hs pl pu ⟨_, _, rfl, t.sq, fun p hp => q.mk e r (cut_dv q2 lo hi) hp⟩
  | scr t l q2 =>
    simp only [slD, der] at e
    exact sl_list pins s σ H _ v vl vu lo hi sl Q I rx hs pl pu ⟨_, _, rfl, t.sq, fun p hp => q.mk e r (cut_dv q2 lo hi) hp⟩
  | @loc ad n hm =>
    simp only [slD, der] at e
    cases hn : st[n]? with
    | none => rw [hn] at e; simp at e
    | some o =>
      rw [hn] at e
      cases o with
      | dct _ => simp at e
      | lst ys =>
        obtain ⟨b, h1, vs, h2, h3, h4⟩ := r.ob n _ hn
        rw [hm] at h1; cases h1
        exact sl_list pins s σ H _ v vl vu lo hi sl Q I rx hs pl pu ⟨_, _, rfl, .of h2, fun p hp => q.mk e r (cut_dv h4 lo hi) hp⟩
  | _ => simp [slD, der] at e
/-! ### x[::-1] of a list -/
def tRevV (te : TE) : TE := fun σ H Q => te σ H fun x H1 => ∃ a xs, x = .ref a ∧ H1 a = some (.lst xs) ∧ ∀ p, H1 p = none → Q (.ref p) (upd H1 p (.lst xs.reverse))
theorem pe_rev {e : Expr} {te : TE} {pos p2 p3 p4 : Pos} {j : Nat} (he : PE X e te) : PE X (.Subscript e (.Slice none none (some (.UnaryOp .USub (.Constant (.int 1) j p3) p4)) p2) pos) (tRevV te) := by
  refine ⟨fun pins s σ H Q I h => ?_⟩
  refine Subscript_ (thn (he.run pins s σ H _ I h) fun v s1 ⟨x, H1, I1, r1, a, xs, ex, hx, q⟩ => ?_)
  subst ex
  cases r1
  obtain ⟨its, rv, pl, hz⟩ := I1.list (SqL.of (K := X.K) hx)
  refine wpAny_Slice ?_
  rw [evalPart_none]
  refine wpAny_pure ?_
  refine wpAny_pure ?_
  rw [evalPart_some]
  have pneg : PE X (.UnaryOp .USub (.Constant (.int 1) j p3) p4) (tUn (rU fun i => .int (-i)) (tC (.int 1))) := pe_un un_neg pe_int
  refine thn (pneg.run pins s1 σ H1 (fun x H2 => x = .int (-1) ∧ H2 = H1) I1 ⟨1, rfl, rfl, rfl⟩) fun u s2 ⟨x2, H2, I2, r2, e2, e3⟩ => ?_
  subst e2 e3
  obtain ⟨t, rfl⟩ := r2
  obtain ⟨its2, rv2, pl2, hz2⟩ := I2.list (SqL.of (K := X.K) hx)
  have I4 : Inv X pins σ H2 { s2 with heap := s2.heap.push { cls := .type "slice", data := .fields #[.none, .none, .int (-1) t] } } := I2.kept (t' := s2.toks) fun b ob q => Heap.get?_push_of_some _ q
  have pl3 : PlainL (s2.heap.push { cls := .type "slice", data := .fields #[.none, .none, .int (-1) t] }) a its2.toArray := by
    obtain ⟨o, n, h1, h2, h3, h4⟩ := pl2
    exact ⟨o, n, Heap.get?_push_of_some _ h1, h2, h3, h4⟩
  have hlen := rv2.length
  refine tail_any (ops := [.ref a, .ref s2.heap.objs.size]) (pl3.isList.typeIs) slot_list_getitem.lookup ?_ (by with_unfolding_all rfl)
  refine wpAny_getItem_list_slice (s := { s2 with heap := s2.heap.push { cls := .type "slice", data := .fields #[.none, .none, .int (-1) t] } }) pl3.isList (Heap.IsSliceOf.new ..) .none .none (.int (-1) t) (by decide) ?_ (by rw [List.size_toArray] <;> omega)
  rw [PySem.W.krv_pick]
  refine ⟨.ref _, _, I4.laid (t' := s2.toks) (o := .lst xs.reverse) (fun b ob q => Heap.get?_push_of_some _ q) (Nat.le_refl _) ?_, rfl, q _ (I4.hok.fresh (Nat.le_refl _))⟩
  exact ⟨by rw [List.length_reverse]; exact hz2, _, 0, rv2.reverse, Heap.get?_push_size _ rfl⟩
/-! ### methods -/
set_option maxRecDepth 8000 in
open PySem.AutoSeq1 in
theorem ext_tup (l : Addr) (items : Array Value) (n : Nat) (b : Addr) (dd : Option Addr) (sl : Array (Option Value)) (items2 : Array Value) (n2 : Nat) (hs0 : ¬(!items.isEmpty && Builtin.List.listTooLong (items.size + items2.size)) = true) (hs1 : items.size ≤ sizeLine) (hs2 : items.size + items2.size ≤ sizeLine + 1) :
    Meets (Builtin.«list.extend» ⟨[.ref l, .ref b], []⟩) (fun _ R s => s.heap.get? l = some { cls := .type "list", dict := none, data := .seq items n, slots := #[] } ∧ s.heap.get? b = some { cls := .type "tuple", dict := dd, data := .seq items2 n2, slots := sl } ∧ R (.ok (.ret Value.none)) { s with heap := s.heap.update l (Obj.mapSeq fun x => x ++ items2), toks := s.toks }) :=
  .of_wp fun prog w A R s h => by
    obtain ⟨hp, g, d, tk, os⟩ := s; obtain ⟨hl, hb, h⟩ := h; have f1 := AutoSeq1.idx_int; have f2 := AutoSeq1.sub_tuple_tuple; have f3 := AutoSeq1.sub_list_list; have f4 := AutoSeq1.sub_tuple_list; have f5 := AutoSeq1.sub_list_tuple;
    have hz' : (items ++ items2).size ≤ sizeLine + 1 := by rw [Array.size_append]; exact hs2
    wp_walk using (wpAny_updateSeq hl rfl (hz := hs1) (_hz' := hz')), wpAny_loadPart' hl, wpAny_loadPart' hb; exact ⟨_, rfl, h⟩
def rExtT (K : PySem.W.Frag) : V → List V → Hp → VK → Prop := fun x vs H Q => ∃ l b xs zs, x = .ref l ∧ vs = [.ref b] ∧ H l = some (.lst xs) ∧ SqT K H b zs ∧ xs.length + zs.length ≤ sizeLine ∧ Q .non (upd H l (.lst (xs ++ zs)))
theorem mt_extT : MtR X "list.extend" (rExtT X.K) := by
  intro pins s σ H x vs v us Q I rx rv h
  obtain ⟨l, b, xs, zs, rfl, rfl, hH, hB, hz, q⟩ := h
  cases rx
  obtain ⟨u, rfl, ru⟩ := rv.one
  cases ru
  obtain ⟨z, its, n, r, hl, e⟩ := I.lstM hH
  obtain ⟨its2, r2, ⟨⟨oc, od, dt, sl⟩, e2, hc, n2, hd⟩, z2⟩ := I.tuple hB
  simp only at hc hd
  subst hc hd
  have hl2 := r2.length
  have hsz : its.toArray.size + its2.toArray.size ≤ sizeLine := by rw [List.size_toArray, List.size_toArray]; omega
  have hlong : ¬ (!its.toArray.isEmpty && Builtin.List.listTooLong (its.toArray.size + its2.toArray.size)) = true := by
    rw [notLongL hsz, Bool.and_false]
    exact Bool.false_ne_true
  refine call_meets F.slot_list_extend ⟨_, e, rfl⟩ F.entry_list_extend (F.args_list_extend_2 _ _)
    (ext_tup l its.toArray n b od sl its2.toArray n2 hlong (by rw [List.size_toArray]; omega) (by omega)) ⟨e, e2, ?_⟩
  refine ⟨.non, _, I.lset (its' := its ++ its2) hH e (by simp) (r.append r2) ?_, rfl, q⟩
  rw [List.length_append]
  omega
def idM : Mt → String
  | .append => "list.append" | .extend => "list.extend" | .insert => "list.insert" | .pop => "list.pop" | .popAt => "list.pop" | .index => "list.index" | .count => "list.count"
def rM (K : PySem.W.Frag) (o : Mt) : V → List V → Hp → VK → Prop := fun x vs H Q => ∃ ω μ st a ds d st', RS K ω μ st H ∧ DV K ω μ H a x ∧ DVs K ω μ H ds vs ∧ methD st o a ds = some (d, st') ∧ Fin K ω μ H d st' Q
theorem Fin.put {K : PySem.W.Frag} {ω μ : List Addr} {H : Hp} {st : Sto} {Q : VK} {n : Nat} {a : Addr} {xs : List D} {vs : List V} {d : D} {v : V} (q : Fin K ω μ H d (st.set n (.lst xs)) Q) (r : RS K ω μ st H) (hm : μ[n]? = some a) (hl : xs.length ≤ sizeLine) (h : DVs K ω μ H xs vs) (hd : DV K ω μ H d v) : Q v (upd H a (.lst vs)) := by
  obtain ⟨s, r2⟩ := r.put (o := .lst vs) (so := .lst xs) hm fun H' s e => ⟨vs, e, hl, h.step s⟩
  exact q _ _ _ s r2 (hd.step s)
theorem okM (o : Mt) : MtR X (idM o) (rM X.K o) := by
  intro pins s σ H x vs v us Q I rx rv h
  obtain ⟨ω, μ, st, a, ds, d, st', r, ha, hs, e, q⟩ := h
  have lim : LIM + LIM ≤ sizeLine := by rw [sizeLine_eq]; decide
  have at_ : ∀ {n : Nat} {xs : List D}, a = .loc n → st[n]? = some (.lst xs) → ∃ ad vs', x = .ref ad ∧ μ[n]? = some ad ∧ H ad = some (.lst vs') ∧ xs.length ≤ sizeLine ∧ DVs X.K ω μ H xs vs' := by
    rintro n xs rfl hn
    cases ha with
    | @loc ad _ hm =>
      obtain ⟨b, h1, ws, h2, h3, h4⟩ := r.ob n _ hn
      rw [hm] at h1; cases h1
      exact ⟨_, ws, rfl, hm, h2, h3, h4⟩
  unfold methD at e
  split at e
  · -- append
    rename_i n d0
    split at e
    · rename_i xs hn
      obtain ⟨ad, ws, rfl, hm, hH, hl, hv⟩ := at_ rfl hn
      split at e
      · rename_i hlt
        obtain ⟨rfl, rfl⟩ := Prod.mk.inj (Option.some.inj e)
        cases hs with
        | cons h1 h2 =>
          cases h2
          have hz := hv.length
          exact mt_append pins s σ H _ _ v us Q I rx rv ⟨_, _, _, rfl, rfl, hH, by omega, q.put r hm (by simp; omega) (hv.append (.cons h1 .nil)) .non⟩
      · cases e
    · cases e
  · -- extend
    rename_i n d0
    split at e
    · rename_i xs ys hn hd
      obtain ⟨ad, ws, rfl, hm, hH, hl, hv⟩ := at_ rfl hn
      split at e
      · rename_i hlt
        obtain ⟨rfl, rfl⟩ := Prod.mk.inj (Option.some.inj e)
        cases hs with
        | cons h1 h2 =>
          cases h2
          have hd2 : d0 = .tup ys := by
            cases d0 with
            | loc m =>
              simp only [der] at hd
              split at hd <;> cases hd
            | _ => simpa [der] using hd
          subst hd2
          cases h1 with
          | tup t l q2 =>
            have hz := hv.length
            have hz2 := q2.length
            exact mt_extT pins s σ H _ _ v us Q I rx rv ⟨_, _, _, _, rfl, rfl, hH, t.sq, by omega, q.put r hm (by simp; omega) (hv.append q2) .non⟩
      · cases e
    · rename_i xs ys hn hd
      obtain ⟨ad, ws, rfl, hm, hH, hl, hv⟩ := at_ rfl hn
      split at e
      · rename_i hlt
        obtain ⟨rfl, rfl⟩ := Prod.mk.inj (Option.some.inj e)
        cases hs with
        | cons h1 h2 =>
          cases h2
          obtain ⟨ad2, vs2, rfl, hH2, q2, hl2⟩ := lst_at r h1 hd
          have hz := hv.length
          have hz2 := q2.length
          exact mt_extend pins s σ H _ _ v us Q I rx rv ⟨_, _, _, _, rfl, rfl, hH, hH2, by omega, q.put r hm (by simp; omega) (hv.append q2) .non⟩
      · cases e
    · cases e
  · -- insert
    rename_i n i d0
    split at e
    · rename_i xs hn
      obtain ⟨ad, ws, rfl, hm, hH, hl, hv⟩ := at_ rfl hn
      split at e
      · rename_i hlt
        obtain ⟨hlt, h0, h1⟩ := hlt
        obtain ⟨rfl, rfl⟩ := Prod.mk.inj (Option.some.inj e)
        cases hs with
        | cons k1 k2 =>
          cases k1
          cases k2 with
          | cons k3 k4 =>
            cases k4
            have hz := hv.length
            exact mt_insert pins s σ H _ _ v us Q I rx rv ⟨_, _, _, _, rfl, rfl, hH, by omega, h0, by omega, q.put r hm (by simp; omega) (((hv.take _).append (.cons k3 .nil)).append (hv.drop _)) .non⟩
      · cases e
    · cases e
  · -- pop
    rename_i n
    split at e
    · rename_i xs hn
      obtain ⟨ad, ws, rfl, hm, hH, hl, hv⟩ := at_ rfl hn
      obtain ⟨d1, e1, e2⟩ := Option.map_eq_some_iff.mp e
      obtain ⟨rfl, rfl⟩ := Prod.mk.inj e2
      cases hs
      obtain ⟨w, h1, h2⟩ := hv.get e1
      have hz := hv.length
      rw [hz] at h1
      refine mt_pop pins s σ H _ _ v us Q I rx rv ⟨_, _, _, rfl, rfl, hH, h1, q.put r hm (by simp; omega) ?_ h2⟩
      rw [List.dropLast_eq_take, List.dropLast_eq_take, hz]
      exact hv.take _
    · cases e
  · cases e
end
end Ev
set_option Elab.async false
set_option linter.all false
set_option maxRecDepth 100000
set_option maxHeartbeats 4000000
/-! Expressions over trees: the readings by the evaluator's own terms. -/
namespace Ev
open PySem PySem.Spec PyProof.Rows L2
abbrev MD := Env → Sto → Option (D × Sto)
abbrev MDs := Env → Sto → Option (List D × Sto)
abbrev MW := Env → Sto → Option (Wk × Sto)
abbrev FinS (K : PySem.W.Frag) (ω μ : List Addr) (H : Hp) (ds : List D) (st' : Sto) (Q : List V → Hp → Prop) : Prop := ∀ μ' vs H', Step [] μ H μ' H' → RS K ω μ' st' H' → DVs K ω μ' H' ds vs → Q vs H'
def tD (K : PySem.W.Frag) (m : MD) : TE := fun σ H Q => ∃ ω μ δ st d st', Rel K ω μ δ st σ H ∧ m δ st = some (d, st') ∧ Fin K ω μ H d st' Q
def tA (K : PySem.W.Frag) (m : MDs) : TA := fun σ H Q => ∃ ω μ δ st ds st', Rel K ω μ δ st σ H ∧ m δ st = some (ds, st') ∧ FinS K ω μ H ds st' Q
def tT (K : PySem.W.Frag) (m : MD) : TT := fun σ H Q => ∃ ω μ δ st b st', Rel K ω μ δ st σ H ∧ m δ st = some (.bl b, st') ∧ ∀ μ' H', Step [] μ H μ' H' → RS K ω μ' st' H' → Q b H'
theorem _root_.L2.PE.wk {X : Cx} {e : Expr} {t t' : TE} (h : PE X e t) (w : ∀ σ H Q, t' σ H Q → t σ H Q) : PE X e t' := ⟨fun pins s σ H Q I q => h.run pins s σ H Q I (w _ _ _ q)⟩
theorem _root_.L2.PT.wk {X : Cx} {e : Expr} {t t' : TT} (h : PT X e t) (w : ∀ σ H Q, t' σ H Q → t σ H Q) : PT X e t' := ⟨fun pins s σ H Q I q => h.run pins s σ H Q I (w _ _ _ q)⟩
theorem _root_.L2.PW.wk {X : Cx} {e : Expr} {t t' : TT} (h : PW X e t) (w : ∀ σ H Q, t' σ H Q → t σ H Q) : PW X e t' := ⟨fun wh pins s σ H Q I q => h.run wh pins s σ H Q I (w _ _ _ q)⟩
theorem _root_.L2.PA.wk {X : Cx} {e : List Expr} {t t' : TA} (h : PA X e t) (w : ∀ σ H Q, t' σ H Q → t σ H Q) : PA X e t' := ⟨fun pos pins s σ H Q I q => h.run pos pins s σ H Q I (w _ _ _ q)⟩
theorem tD.congr {K : PySem.W.Frag} {m m' : MD} (h : ∀ δ st, m δ st = m' δ st) : tD K m = tD K m' := by
  have : m = m' := funext fun δ => funext fun st => h δ st
  rw [this]
section
variable {X : Cx} {C : Cfg} {a b c : Expr} {ia ib ic : E} {pos : Pos} {k : Nat}
theorem h_non {j} : PE X (.Constant .none j pos) (tD X.K (evE C .non)) := pe_non.wk fun σ H Q ⟨ω, μ, δ, st, d, st', R, e, q⟩ => by
  simp only [evE, Option.some.injEq, Prod.mk.injEq] at e
  obtain ⟨rfl, rfl⟩ := e
  exact q.now R.rs .non
theorem h_bl {j v} : PE X (.Constant (.bool v) j pos) (tD X.K (evE C (.bl v))) := pe_bl.wk fun σ H Q ⟨ω, μ, δ, st, d, st', R, e, q⟩ => by
  simp only [evE, Option.some.injEq, Prod.mk.injEq] at e
  obtain ⟨rfl, rfl⟩ := e
  exact q.now R.rs (.bl _)
theorem h_int {j v} : PE X (.Constant (.int v) j pos) (tD X.K (evE C (.int v))) := pe_int.wk fun σ H Q ⟨ω, μ, δ, st, d, st', R, e, q⟩ => by
  simp only [evE, Option.some.injEq, Prod.mk.injEq] at e
  obtain ⟨rfl, rfl⟩ := e
  exact q.now R.rs (.int _)
theorem h_str {j v} : PE X (.Constant (.str v) j pos) (tD X.K (evE C (.str v))) := pe_str.wk fun σ H Q ⟨ω, μ, δ, st, d, st', R, e, q⟩ => by
  simp only [evE, Option.some.injEq, Prod.mk.injEq] at e
  obtain ⟨rfl, rfl⟩ := e
  exact q.now R.rs (.str _)
theorem h_var {i : Nat} {x : Str} (hN : X.N[i]? = some x) (hv : Vis X.env.scope x) (hd : (x == ("__debug__" : Str)) = false) (hcd : (x == ("__classdict__" : Str)) = false) : PE X (.Name x pos) (tD X.K (evE C (.var i))) :=
  (pe_var hN hv hd hcd).wk fun σ H Q ⟨ω, μ, δ, st, d, st', R, e, q⟩ => by
    simp only [evE] at e
    split at e
    · rename_i d0 h0
      obtain ⟨rfl, rfl⟩ := Prod.mk.inj (Option.some.inj e)
      obtain ⟨v, h1, h2⟩ := R.env _ _ h0
      exact ⟨v, h1, q.now R.rs h2⟩
    · cases e
theorem h_gl {x : Str} {v : V} {u : Value} {d0 : D} (hg : Gl X x) (hm : X.mg x = some u) (r : RelV v u) (hd : (x == ("__debug__" : Str)) = false) (hc : C.gl x = some d0) (hv : ∀ ω μ H, DV X.K ω μ H d0 v) : PE X (.Name x pos) (tD X.K (evE C (.gl x))) :=
  (pe_glob hg hm r hd).wk fun σ H Q ⟨ω, μ, δ, st, d, st', R, e, q⟩ => by
    simp only [evE, hc, Option.map_some, Option.some.injEq, Prod.mk.injEq] at e
    obtain ⟨rfl, rfl⟩ := e
    exact q.now R.rs (hv _ _ _)
theorem h_bin (o : BOp) (ha : PE X a (tD X.K (evE C ia))) (hb : PE X b (tD X.K (evE C ib))) : PE X (.BinOp a (opB o) b pos) (tD X.K (evE C (.bin o ia ib))) :=
  (pe_op (okB o) ha hb).wk fun σ H Q ⟨ω, μ, δ, st, d, st', R, e, q⟩ => by
    simp only [evE] at e
    obtain ⟨⟨x, st1⟩, e1, e2⟩ := Option.bind_eq_some_iff.mp e
    obtain ⟨⟨y, st2⟩, e3, e4⟩ := Option.bind_eq_some_iff.mp e2
    obtain ⟨z, e5, e6⟩ := Option.map_eq_some_iff.mp e4
    obtain ⟨rfl, rfl⟩ := Prod.mk.inj e6
    exact ⟨ω, μ, δ, st, x, st1, R, e1, fun μ1 v1 H1 s1 r1 d1 => ⟨ω, μ1, δ, st1, y, st2, R.step s1 r1, e3, fun μ2 v2 H2 s2 r2 d2 => ⟨ω, μ2, st2, x, y, z, r2, d1.step s2, d2, e5, fun μ3 v3 H3 s3 r3 d3 => q μ3 v3 H3 ((s1.trans s2).trans s3) r3 d3⟩⟩⟩
theorem h_cmpR (o : COp) (σ : L2.St) (H : Hp) (Q : VK) (h : tD X.K (evE C (.cmp o ia ib)) σ H Q) : tOp (rC X.K o) (tD X.K (evE C ia)) (tD X.K (evE C ib)) σ H Q := by
  obtain ⟨ω, μ, δ, st, d, st', R, e, q⟩ := h
  simp only [evE] at e
  obtain ⟨⟨x, st1⟩, e1, e2⟩ := Option.bind_eq_some_iff.mp e
  obtain ⟨⟨y, st2⟩, e3, e4⟩ := Option.bind_eq_some_iff.mp e2
  obtain ⟨z, e5, e6⟩ := Option.map_eq_some_iff.mp e4
  obtain ⟨rfl, rfl⟩ := Prod.mk.inj e6
  exact ⟨ω, μ, δ, st, x, st1, R, e1, fun μ1 v1 H1 s1 r1 d1 => ⟨ω, μ1, δ, st1, y, st2, R.step s1 r1, e3, fun μ2 v2 H2 s2 r2 d2 => ⟨ω, μ2, st2, x, y, z, r2, d1.step s2, d2, e5, q μ2 _ H2 (s1.trans s2) r2 (.bl _)⟩⟩⟩
theorem h_cmp (hu : X.A.units + 65 < cLine) (o : COp) (ha : PE X a (tD X.K (evE C ia))) (hb : PE X b (tD X.K (evE C ib))) (hm : behindInMarks (opC o) b = false) : PE X (.Compare a [opC o] [b] pos) (tD X.K (evE C (.cmp o ia ib))) :=
  (pe_cmpR (okC hu o) ha hb hm).wk fun σ H Q h => h_cmpR o σ H Q h
theorem tT_of {m : MD} {σ : L2.St} {H : Hp} {Q : Bool → Hp → Prop} (h : tT X.K m σ H Q) : tD X.K m σ H (fun x H' => ∃ k, x = .bl k ∧ Q k H') := by
  obtain ⟨ω, μ, δ, st, b, st', R, e, q⟩ := h
  exact ⟨ω, μ, δ, st, .bl b, st', R, e, fun μ' v H' s r d => by cases d; exact ⟨_, rfl, q μ' H' s r⟩⟩
theorem t_cmp (hu : X.A.units + 65 < cLine) (o : COp) (ha : PE X a (tD X.K (evE C ia))) (hb : PE X b (tD X.K (evE C ib))) (hm : behindInMarks (opC o) b = false) : PT X (.Compare a [opC o] [b] pos) (tT X.K (evE C (.cmp o ia ib))) :=
  (pt_cmpR (okC hu o) ha hb hm).wk fun σ H Q h => h_cmpR o σ H _ (tT_of h)
theorem h_chainR (o o' : COp) (σ : L2.St) (H : Hp) (Q : VK) (h : tD X.K (evE C (.chain o o' ia ib ic)) σ H Q) : tChain (rC X.K o) (rC X.K o') (tD X.K (evE C ia)) (tD X.K (evE C ib)) (tD X.K (evE C ic)) σ H Q := by
  obtain ⟨ω, μ, δ, st, d, st', R, e, q⟩ := h
  simp only [evE] at e
  obtain ⟨⟨x, st1⟩, e1, e2⟩ := Option.bind_eq_some_iff.mp e
  obtain ⟨⟨y, st2⟩, e3, e4⟩ := Option.bind_eq_some_iff.mp e2
  obtain ⟨k, e5, e6⟩ := Option.bind_eq_some_iff.mp e4
  refine ⟨ω, μ, δ, st, x, st1, R, e1, fun μ1 v1 H1 s1 r1 d1 => ⟨ω, μ1, δ, st1, y, st2, R.step s1 r1, e3, fun μ2 v2 H2 s2 r2 d2 => ⟨ω, μ2, st2, x, y, k, r2, d1.step s2, d2, e5, k, rfl, ?_⟩⟩⟩
  cases k with
  | false =>
    simp only [Bool.false_eq_true, if_false, Option.some.injEq, Prod.mk.injEq] at e6 ⊢
    obtain ⟨rfl, rfl⟩ := e6
    exact q μ2 _ H2 (s1.trans s2) r2 (.bl _)
  | true =>
    simp only [if_true] at e6 ⊢
    obtain ⟨⟨z, st3⟩, e7, e8⟩ := Option.bind_eq_some_iff.mp e6
    obtain ⟨w, e9, e10⟩ := Option.map_eq_some_iff.mp e8
    obtain ⟨rfl, rfl⟩ := Prod.mk.inj e10
    exact ⟨ω, μ2, δ, st2, z, st3, R.step (s1.trans s2) r2, e7, fun μ3 v3 H3 s3 r3 d3 => ⟨ω, μ3, st3, y, z, w, r3, d2.step s3, d3, e9, q μ3 _ H3 ((s1.trans s2).trans s3) r3 (.bl _)⟩⟩
theorem h_chain (hu : X.A.units + 65 < cLine) (o o' : COp) (ha : PE X a (tD X.K (evE C ia))) (hb : PE X b (tD X.K (evE C ib))) (hc : PE X c (tD X.K (evE C ic))) (hm : lastMarks [opC o, opC o'] [b, c] = false) : PE X (.Compare a [opC o, opC o'] [b, c] pos) (tD X.K (evE C (.chain o o' ia ib ic))) :=
  (pe_chain (okC hu o) (okC hu o') ha hb hc hm).wk fun σ H Q h => h_chainR o o' σ H Q h
theorem t_chain (hu : X.A.units + 65 < cLine) (o o' : COp) (ha : PE X a (tD X.K (evE C ia))) (hb : PE X b (tD X.K (evE C ib))) (hc : PE X c (tD X.K (evE C ic))) (hm : lastMarks [opC o, opC o'] [b, c] = false) : PT X (.Compare a [opC o, opC o'] [b, c] pos) (tT X.K (evE C (.chain o o' ia ib ic))) :=
  (pt_chain (okC hu o) (okC hu o') ha hb hc hm).wk fun σ H Q h => h_chainR o o' σ H _ (tT_of h)
theorem h_neg (ha : PE X a (tD X.K (evE C ia))) : PE X (.UnaryOp .USub a pos) (tD X.K (evE C (.neg ia))) :=
  (pe_un un_neg ha).wk fun σ H Q ⟨ω, μ, δ, st, d, st', R, e, q⟩ => by
    simp only [evE] at e
    obtain ⟨⟨x, st1⟩, e1, e2⟩ := Option.bind_eq_some_iff.mp e
    cases x <;> simp only [reduceCtorEq, Option.some.injEq, Prod.mk.injEq] at e2
    obtain ⟨rfl, rfl⟩ := e2
    exact ⟨ω, μ, δ, st, _, _, R, e1, fun μ1 v1 H1 s1 r1 d1 => by cases d1; exact ⟨_, rfl, q μ1 _ H1 s1 r1 (.int _)⟩⟩
theorem h_notR (σ : L2.St) (H : Hp) (Q : Bool → Hp → Prop) (h : tT X.K (evE C (.not ia)) σ H Q) : tNot (tT X.K (evE C ia)) σ H Q := by
  obtain ⟨ω, μ, δ, st, b, st', R, e, q⟩ := h
  simp only [evE] at e
  obtain ⟨⟨x, st1⟩, e1, e2⟩ := Option.bind_eq_some_iff.mp e
  cases x <;> simp only [reduceCtorEq, Option.some.injEq, Prod.mk.injEq, D.bl.injEq] at e2
  obtain ⟨rfl, rfl⟩ := e2
  exact ⟨ω, μ, δ, st, _, _, R, e1, fun μ1 H1 s1 r1 => q μ1 H1 s1 r1⟩
theorem t_not (ha : PT X a (tT X.K (evE C ia))) : PT X (.UnaryOp .Not a pos) (tT X.K (evE C (.not ia))) := (pt_not ha).wk fun σ H Q h => h_notR σ H Q h
theorem h_not (ha : PE X a (tD X.K (evE C ia))) : PE X (.UnaryOp .Not a pos) (tD X.K (evE C (.not ia))) :=
  (pe_not ha).wk fun σ H Q ⟨ω, μ, δ, st, d, st', R, e, q⟩ => by
    simp only [evE] at e
    obtain ⟨⟨x, st1⟩, e1, e2⟩ := Option.bind_eq_some_iff.mp e
    cases x <;> simp only [reduceCtorEq, Option.some.injEq, Prod.mk.injEq] at e2
    obtain ⟨rfl, rfl⟩ := e2
    exact ⟨ω, μ, δ, st, _, _, R, e1, fun μ1 v1 H1 s1 r1 d1 => by cases d1; exact ⟨_, rfl, q μ1 _ H1 s1 r1 (.bl _)⟩⟩
theorem h_and {rest : List Expr} (ha : PE X a (tD X.K (evE C ia))) (hb : PE X (.BoolOp .And (b :: rest) pos) (tD X.K (evE C ib))) : PE X (.BoolOp .And (a :: b :: rest) pos) (tD X.K (evE C (.and ia ib))) :=
  (pe_and ha hb).wk fun σ H Q ⟨ω, μ, δ, st, d, st', R, e, q⟩ => by
    simp only [evE] at e
    obtain ⟨⟨x, st1⟩, e1, e2⟩ := Option.bind_eq_some_iff.mp e
    refine ⟨ω, μ, δ, st, x, st1, R, e1, fun μ1 v1 H1 s1 r1 d1 => ?_⟩
    cases d1 <;> simp only [reduceCtorEq] at e2
    rename_i k
    refine ⟨k, rfl, ?_⟩
    cases k with
    | true => exact ⟨ω, μ1, δ, st1, d, st', R.step s1 r1, e2, fun μ2 v2 H2 s2 r2 d2 => q μ2 v2 H2 (s1.trans s2) r2 d2⟩
    | false =>
      simp only [Option.some.injEq, Prod.mk.injEq] at e2
      obtain ⟨rfl, rfl⟩ := e2
      exact q μ1 _ H1 s1 r1 (.bl _)
theorem h_or {rest : List Expr} (ha : PE X a (tD X.K (evE C ia))) (hb : PE X (.BoolOp .Or (b :: rest) pos) (tD X.K (evE C ib))) : PE X (.BoolOp .Or (a :: b :: rest) pos) (tD X.K (evE C (.or ia ib))) :=
  (pe_or ha hb).wk fun σ H Q ⟨ω, μ, δ, st, d, st', R, e, q⟩ => by
    simp only [evE] at e
    obtain ⟨⟨x, st1⟩, e1, e2⟩ := Option.bind_eq_some_iff.mp e
    refine ⟨ω, μ, δ, st, x, st1, R, e1, fun μ1 v1 H1 s1 r1 d1 => ?_⟩
    cases d1 <;> simp only [reduceCtorEq] at e2
    rename_i k
    refine ⟨k, rfl, ?_⟩
    cases k with
    | false => exact ⟨ω, μ1, δ, st1, d, st', R.step s1 r1, e2, fun μ2 v2 H2 s2 r2 d2 => q μ2 v2 H2 (s1.trans s2) r2 d2⟩
    | true =>
      simp only [Option.some.injEq, Prod.mk.injEq] at e2
      obtain ⟨rfl, rfl⟩ := e2
      exact q μ1 _ H1 s1 r1 (.bl _)
theorem t_and {rest : List Expr} (ha : PT X a (tT X.K (evE C ia))) (hb : PW X (.BoolOp .And (b :: rest) pos) (tT X.K (evE C ib))) : PW X (.BoolOp .And (a :: b :: rest) pos) (tT X.K (evE C (.and ia ib))) :=
  (pw_and ha hb).wk fun σ H Q ⟨ω, μ, δ, st, d, st', R, e, q⟩ => by
    simp only [evE] at e
    obtain ⟨⟨x, st1⟩, e1, e2⟩ := Option.bind_eq_some_iff.mp e
    cases x <;> simp only [reduceCtorEq] at e2
    rename_i k
    refine ⟨ω, μ, δ, st, k, st1, R, e1, fun μ1 H1 s1 r1 => ?_⟩
    cases k with
    | true => exact ⟨ω, μ1, δ, st1, d, st', R.step s1 r1, e2, fun μ2 H2 s2 r2 => q μ2 H2 (s1.trans s2) r2⟩
    | false =>
      simp only [Option.some.injEq, Prod.mk.injEq, D.bl.injEq] at e2
      obtain ⟨rfl, rfl⟩ := e2
      exact q μ1 H1 s1 r1
theorem t_or {rest : List Expr} (ha : PT X a (tT X.K (evE C ia))) (hb : PW X (.BoolOp .Or (b :: rest) pos) (tT X.K (evE C ib))) : PW X (.BoolOp .Or (a :: b :: rest) pos) (tT X.K (evE C (.or ia ib))) :=
  (pw_or ha hb).wk fun σ H Q ⟨ω, μ, δ, st, d, st', R, e, q⟩ => by
    simp only [evE] at e
    obtain ⟨⟨x, st1⟩, e1, e2⟩ := Option.bind_eq_some_iff.mp e
    cases x <;> simp only [reduceCtorEq] at e2
    rename_i k
    refine ⟨ω, μ, δ, st, k, st1, R, e1, fun μ1 H1 s1 r1 => ?_⟩
    cases k with
    | false => exact ⟨ω, μ1, δ, st1, d, st', R.step s1 r1, e2, fun μ2 H2 s2 r2 => q μ2 H2 (s1.trans s2) r2⟩
    | true =>
      simp only [Option.some.injEq, Prod.mk.injEq, D.bl.injEq] at e2
      obtain ⟨rfl, rfl⟩ := e2
      exact q μ1 H1 s1 r1
theorem h_ite (hc : PT X c (tT X.K (evE C ic))) (ha : PE X a (tD X.K (evE C ia))) (hb : PE X b (tD X.K (evE C ib))) : PE X (.IfExp c a b pos) (tD X.K (evE C (.ite ic ia ib))) :=
  (pe_ifExp hc ha hb).wk fun σ H Q ⟨ω, μ, δ, st, d, st', R, e, q⟩ => by
    simp only [evE] at e
    obtain ⟨⟨x, st1⟩, e1, e2⟩ := Option.bind_eq_some_iff.mp e
    cases x <;> simp only [reduceCtorEq] at e2
    rename_i k
    refine ⟨ω, μ, δ, st, k, st1, R, e1, fun μ1 H1 s1 r1 => ?_⟩
    cases k with
    | true => exact ⟨ω, μ1, δ, st1, d, st', R.step s1 r1, e2, fun μ2 v2 H2 s2 r2 d2 => q μ2 v2 H2 (s1.trans s2) r2 d2⟩
    | false => exact ⟨ω, μ1, δ, st1, d, st', R.step s1 r1, e2, fun μ2 v2 H2 s2 r2 d2 => q μ2 v2 H2 (s1.trans s2) r2 d2⟩
/-! ### argument lists, displays -/
variable {es : List Expr} {ies : Es}
theorem a_nil : PA X [] (tA X.K (evEs C .nil)) := pa_nil.wk fun σ H Q ⟨ω, μ, δ, st, d, st', R, e, q⟩ => by
  simp only [evEs, Option.some.injEq, Prod.mk.injEq] at e
  obtain ⟨rfl, rfl⟩ := e
  exact q μ [] H .refl R.rs .nil
theorem a_cons (ha : PE X a (tD X.K (evE C ia))) (hr : PA X es (tA X.K (evEs C ies))) (hs : starEach (a :: es) X.env = (false, eval a X.env) :: starEach es X.env) : PA X (a :: es) (tA X.K (evEs C (.cons ia ies))) :=
  (pa_cons ha hr hs).wk fun σ H Q ⟨ω, μ, δ, st, d, st', R, e, q⟩ => by
    simp only [evEs] at e
    obtain ⟨⟨x, st1⟩, e1, e2⟩ := Option.bind_eq_some_iff.mp e
    obtain ⟨⟨xs, st2⟩, e3, e4⟩ := Option.map_eq_some_iff.mp e2
    obtain ⟨rfl, rfl⟩ := Prod.mk.inj e4
    exact ⟨ω, μ, δ, st, x, st1, R, e1, fun μ1 v1 H1 s1 r1 d1 => ⟨ω, μ1, δ, st1, xs, _, R.step s1 r1, e3, fun μ2 vs H2 s2 r2 d2 => q μ2 _ H2 (s1.trans s2) r2 (.cons (d1.step s2) d2)⟩⟩
theorem evEs_len : ∀ {C : Cfg} {es : Es} {δ : Env} {st st' : Sto} {ds : List D}, evEs C es δ st = some (ds, st') → ds.length = es.len
  | _, .nil, _, _, _, _, e => by
    simp only [evEs, Option.some.injEq, Prod.mk.injEq] at e
    obtain ⟨rfl, _⟩ := e
    rfl
  | C, .cons a es, δ, st, st', ds, e => by
    simp only [evEs] at e
    obtain ⟨⟨x, st1⟩, e1, e2⟩ := Option.bind_eq_some_iff.mp e
    obtain ⟨⟨xs, st2⟩, e3, e4⟩ := Option.map_eq_some_iff.mp e2
    obtain ⟨rfl, rfl⟩ := Prod.mk.inj e4
    have := evEs_len (es := es) e3
    simp only [List.length_cons, Es.len, this]
theorem h_tup {x1} (h : PA X es (tA X.K (evEs C ies))) (hl : ies.len ≤ 1000) : PE X (.Tuple es x1 pos) (tD X.K (evE C (.tup ies))) :=
  (pe_tup h).wk fun σ H Q ⟨ω, μ, δ, st, d, st', R, e, q⟩ => by
    simp only [evE] at e
    obtain ⟨⟨xs, st1⟩, e1, e2⟩ := Option.map_eq_some_iff.mp e
    obtain ⟨rfl, rfl⟩ := Prod.mk.inj e2
    have z : xs.length = ies.len := evEs_len e1
    have lim : (1000 : Nat) ≤ sizeLine := by rw [sizeLine_eq]; decide
    refine ⟨ω, μ, δ, st, xs, _, R, e1, fun μ1 vs H1 s1 r1 d1 => ⟨by rw [← d1.length]; omega, fun p hp => ?_⟩⟩
    exact Fin.tup (K := X.K) (ω := ω) (μ := μ1) (ds := xs) (fun μ2 v2 H2 s2 r2 d2 => q μ2 v2 H2 (s1.trans s2) r2 d2) r1 (by omega) d1 hp
theorem h_lst {m : Bool} (h : PA X es (tA X.K (evEs C ies))) : PE X (.List es pos) (tD X.K (evE C (.lst m ies))) :=
  (pe_lst h).wk fun σ H Q ⟨ω, μ, δ, st, d, st', R, e, q⟩ => by
    simp only [evE] at e
    obtain ⟨⟨xs, st1⟩, e1, e2⟩ := Option.bind_eq_some_iff.mp e
    refine ⟨ω, μ, δ, st, xs, _, R, e1, fun μ1 vs H1 s1 r1 d1 => ⟨by rw [← d1.length]; exact mkL_len e2, fun p hp => ?_⟩⟩
    exact Fin.mk (K := X.K) (ω := ω) (μ := μ1) e2 (fun μ2 v2 H2 s2 r2 d2 => q μ2 v2 H2 (s1.trans s2) r2 d2) r1 d1 hp
end
end Ev
set_option Elab.async false
set_option linter.all false
set_option maxRecDepth 100000
set_option maxHeartbeats 4000000
/-! An object of one's own: a list that a comprehension grows, a dict whose pairs are made. -/
namespace Ev
open PySem PySem.Spec PyProof.Rows L2
section
variable {K : PySem.W.Frag} {ω μ μ' : List Addr} {H H' : Hp} {p : Addr} {o : HO}
/-- p is made and is one's own -/
theorem TupAt.mask {a : Addr} {xs : List V} (hp : H p = none) (h : TupAt K ω μ H a xs) : TupAt K (p :: ω) μ (upd H p o) a xs := h.elim (fun ⟨n, nw, r⟩ => .inl (by
  have ne : a ≠ p := by
    rcases r with r | ⟨_, r⟩
    · exact ne_of_none r hp
    · exact ne_of_none r hp
  refine ⟨n, by simp [ne, nw], ?_⟩
  rcases r with r | ⟨q, r⟩
  · exact .inl (by rw [upd_ne ne]; exact r)
  · exact .inr ⟨q, by rw [upd_ne ne]; exact r⟩)) .inr
theorem LstAt.mask {a : Addr} {xs : List V} (hp : H p = none) (h : LstAt ω μ H a xs) : LstAt (p :: ω) μ (upd H p o) a xs := by
  obtain ⟨n, nw, r⟩ := h
  have ne : a ≠ p := ne_of_none r hp
  exact ⟨n, by simp [ne, nw], by rw [upd_ne ne]; exact r⟩
theorem ScrAt.mask {a : Addr} {xs : List V} (hp : H p = none) (h : ScrAt K ω μ H a xs) : ScrAt K (p :: ω) μ (upd H p o) a xs := h.elim (fun ⟨n, nw, r⟩ => .inl (by
  have ne : a ≠ p := by
    rcases r with r | ⟨_, r⟩
    · exact ne_of_none r hp
    · exact ne_of_none r hp
  refine ⟨n, by simp [ne, nw], ?_⟩
  rcases r with r | ⟨q, r⟩
  · exact .inl (by rw [upd_ne ne]; exact r)
  · exact .inr ⟨q, by rw [upd_ne ne]; exact r⟩)) .inr
mutual
theorem DV.mask (hp : H p = none) : ∀ {d : D} {v : V}, DV K ω μ H d v → DV K (p :: ω) μ (upd H p o) d v
  | _, _, .non => .non
  | _, _, .bl b => .bl b
  | _, _, .int b => .int b
  | _, _, .str b => .str b
  | _, _, .tup h l x => .tup (h.mask hp) l (DVs.mask hp x)
  | _, _, .lst h l x => .lst (h.mask hp) l (DVs.mask hp x)
  | _, _, .scr h l x => .scr (h.mask hp) l (DVs.mask hp x)
  | _, _, .loc e => .loc e
theorem DVs.mask (hp : H p = none) : ∀ {d : List D} {v : List V}, DVs K ω μ H d v → DVs K (p :: ω) μ (upd H p o) d v
  | _, _, .nil => .nil
  | _, _, .cons h t => .cons (DV.mask hp h) (DVs.mask hp t)
end
/-! .. and is given away -/
mutual
theorem DV.unmask : ∀ {d : D} {v : V}, DV K (p :: ω) μ H d v → DV K ω μ H d v
  | _, _, .non => .non
  | _, _, .bl b => .bl b
  | _, _, .int b => .int b
  | _, _, .str b => .str b
  | _, _, .tup h l x => .tup (h.elim (fun z => .inl ⟨z.1, fun q => z.2.1 (List.mem_cons_of_mem _ q), z.2.2⟩) .inr) l (DVs.unmask x)
  | _, _, .lst h l x => .lst ⟨h.1, fun q => h.2.1 (List.mem_cons_of_mem _ q), h.2.2⟩ l (DVs.unmask x)
  | _, _, .scr h l x => .scr (h.elim (fun z => .inl ⟨z.1, fun q => z.2.1 (List.mem_cons_of_mem _ q), z.2.2⟩) .inr) l (DVs.unmask x)
  | _, _, .loc e => .loc e
theorem DVs.unmask : ∀ {d : List D} {v : List V}, DVs K (p :: ω) μ H d v → DVs K ω μ H d v
  | _, _, .nil => .nil
  | _, _, .cons h t => .cons (DV.unmask h) (DVs.unmask t)
end
/-! .. and becomes the store -/
mutual
theorem DV.adopt : ∀ {d : D} {v : V}, DV K (p :: ω) μ H d v → DV K ω (μ ++ [p]) H d v
  | _, _, .non => .non
  | _, _, .bl b => .bl b
  | _, _, .int b => .int b
  | _, _, .str b => .str b
  | _, _, .tup h l x => .tup (h.elim (fun z => .inl ⟨fun q => by
      rcases List.mem_append.mp q with q | q
      · exact z.1 q
      · exact z.2.1 (by rw [List.mem_singleton.mp q]; exact List.mem_cons_self), fun q => z.2.1 (List.mem_cons_of_mem _ q), z.2.2⟩) .inr) l (DVs.adopt x)
  | _, _, .lst z l x => .lst ⟨fun q => by
      rcases List.mem_append.mp q with q | q
      · exact z.1 q
      · exact z.2.1 (by rw [List.mem_singleton.mp q]; exact List.mem_cons_self), fun q => z.2.1 (List.mem_cons_of_mem _ q), z.2.2⟩ l (DVs.adopt x)
  | _, _, .scr h l x => .scr (h.elim (fun z => .inl ⟨fun q => by
      rcases List.mem_append.mp q with q | q
      · exact z.1 q
      · exact z.2.1 (by rw [List.mem_singleton.mp q]; exact List.mem_cons_self), fun q => z.2.1 (List.mem_cons_of_mem _ q), z.2.2⟩) .inr) l (DVs.adopt x)
  | _, _, .loc e => .loc (pre_get (List.prefix_append _ _) e)
theorem DVs.adopt : ∀ {d : List D} {v : List V}, DVs K (p :: ω) μ H d v → DVs K ω (μ ++ [p]) H d v
  | _, _, .nil => .nil
  | _, _, .cons h t => .cons (DV.adopt h) (DVs.adopt t)
end
theorem DKs.mask (hp : H p = none) : ∀ {d : List (Key × D)} {v : List (Key × V)}, DKs K ω μ H d v → DKs K (p :: ω) μ (upd H p o) d v
  | _, _, .nil => .nil
  | _, _, .cons h t => .cons (h.mask hp) (DKs.mask hp t)
theorem DKs.unmask : ∀ {d : List (Key × D)} {v : List (Key × V)}, DKs K (p :: ω) μ H d v → DKs K ω μ H d v
  | _, _, .nil => .nil
  | _, _, .cons h t => .cons h.unmask (DKs.unmask t)
theorem DKs.adopt : ∀ {d : List (Key × D)} {v : List (Key × V)}, DKs K (p :: ω) μ H d v → DKs K ω (μ ++ [p]) H d v
  | _, _, .nil => .nil
  | _, _, .cons h t => .cons h.adopt (DKs.adopt t)
variable {st st' : Sto} {δ : Env} {σ : L2.St}
theorem RS.mask (r : RS K ω μ st H) (hp : H p = none) : RS K (p :: ω) μ st (upd H p o) := by
  refine ⟨r.len, r.nd, fun a h => ?_, fun n s e => ?_⟩
  · rcases List.mem_cons.mp h with rfl | h
    · exact ⟨r.nin hp, _, upd_same⟩
    · obtain ⟨h1, u, h2⟩ := r.om a h
      exact ⟨h1, u, by rw [upd_ne (ne_of_none h2 hp)]; exact h2⟩
  · obtain ⟨b, h1, h2⟩ := r.ob n s e
    obtain ⟨u, hu⟩ := h2.some
    have ne : b ≠ p := ne_of_none hu hp
    refine ⟨b, h1, ?_⟩
    cases s with
    | lst xs => obtain ⟨vs, e1, e2, e3⟩ := h2; exact ⟨vs, by rw [upd_ne ne]; exact e1, e2, e3.mask hp⟩
    | dct xs => obtain ⟨vs, e1, e2, e3⟩ := h2; exact ⟨vs, by rw [upd_ne ne]; exact e1, e2, e3.mask hp⟩
theorem RS.unmask (r : RS K (p :: ω) μ st H) : RS K ω μ st H := by
  refine ⟨r.len, r.nd, fun a h => r.om a (List.mem_cons_of_mem _ h), fun n s e => ?_⟩
  obtain ⟨b, h1, h2⟩ := r.ob n s e
  refine ⟨b, h1, ?_⟩
  cases s with
  | lst xs => obtain ⟨vs, e1, e2, e3⟩ := h2; exact ⟨vs, e1, e2, e3.unmask⟩
  | dct xs => obtain ⟨vs, e1, e2, e3⟩ := h2; exact ⟨vs, e1, e2, e3.unmask⟩
theorem RS.adopt (r : RS K (p :: ω) μ st H) (hw : p ∉ ω) {so : SO} (h : OV K ω (μ ++ [p]) H p so) : RS K ω (μ ++ [p]) (st ++ [so]) H := by
  refine ⟨by simp [r.len], ?_, fun a h => ?_, fun n s e => ?_⟩
  · rw [List.nodup_append]
    exact ⟨r.nd, by simp, fun b hb c hc => by rw [List.mem_singleton.mp hc]; intro z; rw [z] at hb; exact (r.om p List.mem_cons_self).1 hb⟩
  · obtain ⟨h1, h2⟩ := r.om a (List.mem_cons_of_mem _ h)
    refine ⟨fun q => ?_, h2⟩
    rcases List.mem_append.mp q with q | q
    · exact h1 q
    · rw [List.mem_singleton.mp q] at h; exact hw h
  · by_cases hn : n < st.length
    · rw [List.getElem?_append_left hn] at e
      obtain ⟨b, h1, h2⟩ := r.ob n s e
      refine ⟨b, pre_get (List.prefix_append _ _) h1, ?_⟩
      cases s with
      | lst xs => obtain ⟨vs, e1, e2, e3⟩ := h2; exact ⟨vs, e1, e2, e3.adopt⟩
      | dct xs => obtain ⟨vs, e1, e2, e3⟩ := h2; exact ⟨vs, e1, e2, e3.adopt⟩
    · rw [List.getElem?_append_right (by omega)] at e
      have hn2 : n = st.length := by
        by_cases z : n - st.length = 0
        · omega
        · obtain ⟨m, hm⟩ : ∃ m, n - st.length = m + 1 := ⟨n - st.length - 1, by omega⟩
          rw [hm] at e; simp at e
      subst hn2
      simp at e
      subst e
      exact ⟨p, by rw [← r.len]; simp, h⟩
theorem Step.unmask (hp : H p = none) (s : Step (p :: ω) μ (upd H p o) μ' H') : Step ω μ H μ' H' where
  pre := s.pre
  new := fun a h n => by
    have := s.new a h n
    by_cases e : a = p
    · rw [e]; exact hp
    · rwa [upd_ne e] at this
  keep := fun a u n nw h => by
    have ne : a ≠ p := ne_of_none h hp
    exact s.keep a u n (by simp [ne, nw]) (by rw [upd_ne ne]; exact h)
  dom := fun a h => by
    have := s.dom a h
    by_cases e : a = p
    · rw [e]; exact hp
    · rwa [upd_ne e] at this
theorem Step.adopt (s : Step ω μ H μ' H') (hp : H p = none) : Step ω μ H (μ' ++ [p]) H' where
  pre := s.pre.trans (List.prefix_append _ _)
  new := fun a h n => by
    rcases List.mem_append.mp h with q | q
    · exact s.new a q n
    · rw [List.mem_singleton.mp q]; exact hp
  keep := s.keep
  dom := s.dom
/-- one's own object is changed -/
theorem RS.own (r : RS K ω μ st H) (hp : p ∈ ω) : Step [p] μ H μ (upd H p o) ∧ RS K ω μ st (upd H p o) := by
  obtain ⟨hn, u, hu⟩ := r.om p hp
  have s : Step [p] μ H μ (upd H p o) := ⟨List.prefix_refl _, fun _ h n => absurd h n, fun b u' _ nw e => by rw [upd_ne (fun z => nw (by rw [z]; exact List.mem_cons_self))]; exact e, fun b e => by
    by_cases hb : b = p
    · rw [hb, upd_same] at e; cases e
    · rw [upd_ne hb] at e; exact e⟩
  refine ⟨s, r.len, r.nd, r.om' (s.one hp), fun n o' e => ?_⟩
  obtain ⟨b, h1, h2⟩ := r.ob n o' e
  refine ⟨b, h1, h2.stepW (s.one hp) ?_⟩
  rw [upd_ne (fun z => hn (by rw [← z]; exact List.mem_of_getElem? h1))]
theorem Rel.mask (r : Rel K ω μ δ st σ H) (hp : H p = none) : Rel K (p :: ω) μ δ st σ (upd H p o) :=
  ⟨r.rs.mask hp, r.len, fun i d e => let ⟨v, h1, h2⟩ := r.env i d e; ⟨v, h1, h2.mask hp⟩⟩
end
/-- the end of a comprehension: the list that was grown at D -/
theorem Fin.grown {K : PySem.W.Frag} {ω μ μ' : List Addr} {H H' : Hp} {D : Addr} {st st' : Sto} {m : Bool} {ds : List Ev.D} {vs : List V} {d : Ev.D} {Q : VK} (e : mkL m ds st = some (d, st')) (q : Fin K ω μ H d st' Q)
    (hD : H D = none) (hw : D ∉ ω) (s : Step [D] μ (upd H D (.lst [])) μ' H') (r : RS K (D :: ω) μ' st H') (hv : DVs K (D :: ω) μ' H' ds vs) (hl : H' D = some (.lst vs)) : Q (.ref D) H' := by
  have hz := mkL_len e
  have s' := s.unmask hD
  obtain ⟨nD, _⟩ := r.om D List.mem_cons_self
  unfold mkL at e
  split at e
  · cases m with
    | false =>
      simp only [Bool.false_eq_true, if_false, Option.some.injEq, Prod.mk.injEq] at e
      obtain ⟨rfl, rfl⟩ := e
      exact q μ' _ _ s' r.unmask (.lst ⟨nD, hw, hl⟩ hz hv.unmask)
    | true =>
      simp only [if_true, Option.some.injEq, Prod.mk.injEq] at e
      obtain ⟨rfl, rfl⟩ := e
      exact q _ _ _ (s'.adopt hD) (r.adopt hw ⟨vs, hl, hz, hv.adopt⟩) (.loc (by rw [← r.len]; simp))
  · cases e
end Ev
set_option Elab.async false
set_option linter.all false
set_option maxRecDepth 100000
set_option maxHeartbeats 4000000
/-! enumerate of a tuple. -/
namespace Ev
open PySem PySem.Spec PyProof.Rows L2
theorem meets_enum1B {v : Value} {o : Obj} {Hh : Heap → Prop} (B : Begins v o Hh) :
    Meets (Builtin.«enumerate.__new__» ⟨[.type "enumerate", v], []⟩) (fun _ R s => Hh s.heap ∧
      R (.ok (.ret (.ref (s.heap.push o).objs.size))) { s with heap := (s.heap.push o).push { cls := .type "enumerate", data := .fields #[.none, .bool false, .ref s.heap.objs.size, rawInt 0, .none, .none] } }) :=
  .of_wp fun prog w A R s h => by
    obtain ⟨hp, g, d, tk, os⟩ := s; obtain ⟨h1, h⟩ := h
    have hsub := sub_enumerate
    have q1 : ∀ {A' : Around} {E : Value → Shared → Prop} {Q : Value → Shared → Prop}, Q (.ref hp.objs.size) ⟨(hp.push o), g, d, tk, os⟩ → wpAny (model prog w) A' (pyIter v) Q E ⟨hp, g, d, tk, os⟩ :=
      fun q => B.iter prog w _ _ ⟨hp, g, d, tk, os⟩ _ h1 q
    wp_walk
    refine wpAny_stack_any fun st => wpAny_pure ?_
    split
    · rename_i c _ _ _ _ _
      cases (c == Value.type "enumerate")
      · wp_walk using q1
        exact ⟨_, rfl, h⟩
      · wp_walk using q1
        exact ⟨_, rfl, h⟩
    · wp_walk using q1
      exact ⟨_, rfl, h⟩
theorem call_enumT {prog : Program} {w : World} {A : Around} {E : Value → Shared → Prop} {s : Shared} {l : Addr} {items : Array Value} {Q : Value → Shared → Prop} (hL : s.heap.IsTuple l items)
    (h : ∀ h', IsEnum h' (s.heap.objs.size + 1) s.heap.objs.size 0 .none → h'.IsTupleIter s.heap.objs.size l 0 → h'.objs.size = s.heap.objs.size + 2 →
      (∀ b o, s.heap.get? b = some o → h'.get? b = some o) → Q (.ref (s.heap.objs.size + 1)) { s with heap := h' }) :
    wpAny (model prog w) A (call (.type "enumerate") [.ref l]) Q E s := by
  refine callType_new F.called_enumerate (by decide) (F.typeCall_enumerate_1 _) (F.newCall_enumerate_1 _) (fun obj => F.args_object_init_2 obj _) F.entry_enumerate_new
    (meets_enum1B (begins_tuple l items)) ⟨hL, ?_⟩
  have hz : (s.heap.push { cls := .type "tuple_iterator", data := .fields #[.ref l, .int 0 0] }).objs.size = s.heap.objs.size + 1 := Heap.size_push ..
  show _ ∧ _
  rw [hz]
  have he : IsEnum ((s.heap.push { cls := .type "tuple_iterator", data := .fields #[.ref l, .int 0 0] }).push
      { cls := .type "enumerate", data := .fields #[.none, .bool false, .ref s.heap.objs.size, rawInt 0, .none, .none] }) (s.heap.objs.size + 1) s.heap.objs.size 0 .none := by
    have := Heap.get?_push_size (s.heap.push { cls := .type "tuple_iterator", data := .fields #[.ref l, .int 0 0] })
      (o := { cls := .type "enumerate", data := .fields #[.none, .bool false, .ref s.heap.objs.size, rawInt 0, .none, .none] }) rfl
    rw [hz] at this; exact this
  exact ⟨⟨_, he, rfl⟩, h _ he ⟨_, Heap.get?_push_of_some _ (Heap.get?_push_size _ rfl), rfl, rfl⟩ (by rw [Heap.size_push, hz]) fun b o x => Heap.get?_push_of_some _ (Heap.get?_push_of_some _ x)⟩
/-- the tuple at a, each item in a new pair -/
def IteT (K : PySem.W.Frag) (a : Addr) : L2.It :=
  ⟨fun i H => ∃ (xs : List V) (x : V), SqT K H a xs ∧ xs[i]? = some x, fun i H v H' => ∃ T x, v = .ref T ∧ H T = none ∧ H' = upd H T (.tup [.int (i : Nat), x]) ∧ ∀ xs, SqT K H a xs → xs[i]? = some x, fun i H => ∃ xs : List V, SqT K H a xs ∧ xs.length ≤ i⟩
theorem turn_enumT {P : Program} {w : World} {K : PySem.W.Frag} {elts : List Expr} {kk : Nat} {tpos : Pos} (a e it : Addr) :
    Turn P w K (.Tuple elts kk tpos) (IteT K a) [e, it] e (fun i h => (∃ old, IsEnum h e it ((i : Nat) : Int) old) ∧ h.IsTupleIter it a i ∧ e ≠ it ∧ a ≠ it ∧ a ≠ e) where
  mem := by simp
  obj := fun i h st b hb => by
    obtain ⟨⟨old, he⟩, ⟨o, ho, hc, hd⟩, _⟩ := st
    have e' : b = e ∨ b = it := by simpa using hb
    rcases e' with z | z
    · rw [z]; exact ⟨_, he, fun v q => nomatch q⟩
    · rw [z]; exact ⟨o, ho, fun v q => by rw [hd] at q; cases q⟩
  keep := fun i h h' st k => let ⟨⟨old, he⟩, hi, hne⟩ := st; ⟨⟨old, k e (by simp) _ he⟩, hi.at fun o q => k it (by simp) o q, hne⟩
  item := by
    intro X hP hw hK hc i pins s σ H E I hf st hg
    subst hP hw hK
    obtain ⟨⟨old, he⟩, hit, hne, hai, hae⟩ := st
    obtain ⟨xs, x, hq, hx⟩ := hg
    obtain ⟨its, rv, p, hz⟩ := I.tuple hq
    obtain ⟨u, hu, ru⟩ := rv.get hx
    have hel : e < s.heap.objs.size := Heap.lt_size he
    have hil : it < s.heap.objs.size := by obtain ⟨_, q, _⟩ := hit; exact Heap.lt_size q
    have hlt : i < its.length := by obtain ⟨l, _⟩ := List.getElem?_eq_some_iff.mp hu; exact l
    refine wpAny_pyNext_enum_itemD (Draws.tuple (A := X.A.in1) (I.ok.hd hc) it a hai its.toArray) he ⟨hit, p⟩ (by simpa using hlt) hne (by simp [hne, Ne.symm hae]) fun y h' tk hy ho hit' hT hsz hk => ?_
    have hyu : y = u := by
      have q : its[i]? = some y := by simpa using hy
      rw [hu] at q
      exact (Option.some.inj q).symm
    subst hyu
    refine ⟨_, rfl, wpAny_letOwnedTupleGo_enum (s := { s with heap := h', toks := tk + 1 }) ho fun h'' he' sb => ?_⟩
    have hT2 : h''.get? s.heap.objs.size = some { cls := .type "tuple", data := .seq #[.int i tk, y] } := (sb.2 _ (Nat.ne_of_gt hel)).trans hT
    have new : ObjOk X.prog X.w (upd H s.heap.objs.size (.tup [.int (i : Nat), x])) h'' s.heap.objs.size (.tup [.int (i : Nat), x]) :=
      ⟨by show 2 ≤ sizeLine; decide, [.int i tk, y], .cons ⟨_, rfl⟩ (.cons ru .nil), ⟨_, hT2, rfl, _, rfl⟩⟩
    have I1 : Inv X pins σ (upd H s.heap.objs.size (.tup [.int (i : Nat), x])) { s with heap := h'', toks := tk + 1 } :=
      I.turnedNew (ch := [e, it]) (fun b ob hb q => (sb.2 b (fun z => hb (by simp [z]))).trans (hk b ob (fun z => hb (by simp [z])) (fun z => hb (by simp [z])) q)) hf (Nat.le_refl _) new
    refine ⟨.ref s.heap.objs.size, _, I1, rfl, ⟨_, x, rfl, I.hok.fresh (Nat.le_refl _), rfl, fun ys hy => by rw [I.tuple_inj hy hq]; exact hx⟩, ⟨⟨y, ?_⟩, hit'.1.at fun o q => (sb.2 it (Ne.symm hne)).trans q, hne, hai, hae⟩, fun b hb => ?_⟩
    · have e1 : ((i + 1 : Nat) : Int) = (i : Int) + 1 := by omega
      rw [e1]; exact he'
    · have hb' : b < s.heap.objs.size := by
        have e' : b = e ∨ b = it := by simpa using hb
        rcases e' with z | z
        · rw [z]; exact hel
        · rw [z]; exact hil
      rw [upd_ne (Nat.ne_of_lt hb')]
      exact (hf b hb).1
  done := by
    intro X hP hw hK hc i pins s σ H E I hf st hg
    subst hP hw hK
    obtain ⟨⟨old, he⟩, hit, hne, hai, hae⟩ := st
    obtain ⟨xs, hq, hx⟩ := hg
    obtain ⟨its, rv, p, hz⟩ := I.tuple hq
    obtain ⟨f0, f1, f2, f3, f4, f5⟩ := hf it (by simp)
    have hl := rv.length
    have hT : s.TypeIs (.ref e) "enumerate" := ⟨_, he, rfl⟩
    unfold pyNext
    refine wpAny_bind (wpAny_attempt (wpAny_callSpecial?_slot (name := Str.ofString "__next__") hT F.slot_enumerate_next
      (wpAny_call_entry F.slot_enumerate_next hT F.entry_enumerate_next ?_ (F.args_enumerate_next_1 _))))
    show wpAny _ _ (field (.ref e) 2 >>= _) _ _ _
    refine wpAny_bind (wpAny_field he rfl (x := .ref it) rfl ?_)
    refine wpAny_bind (wpAny_nextOf_tuple_end (I.ok.hd hc) hit p (by simp; omega) fun h' x he' hx' => ?_)
    obtain ⟨o, ho, hc⟩ := hx'
    refine wpAny_bind (wpAny_isInstance (T := "StopIteration") (b := true) ⟨o, ho, hc⟩ isSubtype_stop ?_)
    exact wpAny_pure ⟨rfl, I.turned (t' := s.toks) (fun b o hb q => he' b o hb q) f0 f1 f3 f4 f5⟩
  self := fun A i s Q E st h => let ⟨⟨_, he⟩, _⟩ := st; wpAny_pyIter_enum he h
def iEnumA (K : PySem.W.Frag) (ta : TA) : TI := fun σ H R => ta σ H fun vs H1 => ∃ a xs, vs = [.ref a] ∧ ((SqL K H1 a xs ∧ R (Ite K a) H1) ∨ (SqT K H1 a xs ∧ R (IteT K a) H1))
theorem pi_enumA {X : Cx} {e : Expr} {ta : TA} {p pos tpos : Pos} {elts : List Expr} {kk : Nat} (hg : Gl X "enumerate") (hm : X.mg "enumerate" = none) (ha : PA X [e] ta) (hs : starEach [e] X.env = [(false, eval e X.env)] := by rfl) :
    PI X (.Tuple elts kk tpos) (.Call (.Name "enumerate" p) [e] [] pos) (iEnumA X.K ta) := by
  refine ⟨fun pins s σ H R I h => ?_⟩
  refine Call_ (ld_blt I hg hm boot_enumerate (PyProof.Rows.callWith_type1 (thn (ha.run pos pins s σ H _ I h) fun us s1 ⟨vs, H1, I1, r1, q1⟩ => ?_) hs rfl))
  obtain ⟨a, xs, ex, q1⟩ := q1
  subst ex
  cases r1 with
  | cons r rr =>
    cases rr
    cases r
    have fr : ∀ b ∈ [s1.heap.objs.size + 1, s1.heap.objs.size], FpOk X pins H1 b := fun b hb => by
      have e' : b = s1.heap.objs.size + 1 ∨ b = s1.heap.objs.size := by simpa using hb
      have hle : s1.heap.objs.size ≤ b := by
        rcases e' with z | z
        · rw [z]; exact Nat.le_add_right _ _
        · rw [z]; exact Nat.le_refl _
      exact I1.fpOk hle (I1.hok.fresh hle)
    rcases q1 with ⟨hq, q⟩ | ⟨hq, q⟩
    · obtain ⟨its, rv, p', hz⟩ := I1.list hq
      refine call_enumerate_list p'.isList fun h' he hit hsz hk => wpAny_pyIter_enum he ?_
      have I2 : Inv X pins σ H1 { s1 with heap := h' } := I1.kept (t' := s1.toks) hk
      exact ⟨s1.heap.objs.size + 1, [s1.heap.objs.size + 1, s1.heap.objs.size], _, _, H1, rfl, I2, turn_enum a (s1.heap.objs.size + 1) s1.heap.objs.size, ⟨⟨.none, he⟩, hit, Nat.succ_ne_self _⟩, fr, q⟩
    · obtain ⟨its, rv, p', hz⟩ := I1.tuple hq
      have hal : a < s1.heap.objs.size := by obtain ⟨o, ho, _⟩ := id p'; exact Heap.lt_size ho
      refine call_enumT (show s1.heap.IsTuple a its.toArray from p') fun h' he hit hsz hk => wpAny_pyIter_enum he ?_
      have I2 : Inv X pins σ H1 { s1 with heap := h' } := I1.kept (t' := s1.toks) hk
      exact ⟨s1.heap.objs.size + 1, [s1.heap.objs.size + 1, s1.heap.objs.size], _, _, H1, rfl, I2, turn_enumT a (s1.heap.objs.size + 1) s1.heap.objs.size, ⟨⟨.none, he⟩, hit, Nat.succ_ne_self _, Nat.ne_of_lt hal, Nat.ne_of_lt (Nat.lt_succ_of_lt hal)⟩, fr, q⟩
end Ev
set_option Elab.async false
set_option linter.all false
set_option maxRecDepth 100000
set_option maxHeartbeats 4000000
/-! What is walked, over trees. -/
namespace Ev
open PySem PySem.Spec PyProof.Rows L2
def treeIs (d : D) (xs : List D) : Prop := match d with
  | .tup ys => xs = ys
  | .lst ys => xs = ys
  | .scr ys => xs = ys
  | .loc _ => True
  | _ => False
def seqJ (K : PySem.W.Frag) (d : D) (a : Addr) : L2.It := match d with
  | .tup _ => Itt K a
  | _ => Itl K a
def enJ (K : PySem.W.Frag) (d : D) (a : Addr) : L2.It := match d with
  | .tup _ => IteT K a
  | _ => Ite K a
inductive WkAt (K : PySem.W.Frag) (ω μ : List Addr) (H : Hp) : Wk → L2.It → Prop
  | seq {d : D} {a : Addr} {xs : List D} : DV K ω μ H d (.ref a) → treeIs d xs → WkAt K ω μ H ⟨xs, keeps d xs⟩ (seqJ K d a)
  | rng {lo : Int} {n : Nat} {xs : List D} : xs.length = n → (∀ i, i < n → xs[i]? = some (.int (lo + (i : Nat)))) → WkAt K ω μ H ⟨xs, fun _ => true⟩ (Itr lo n)
  | enm {d : D} {a : Addr} {xs : List D} : DV K ω μ H d (.ref a) → treeIs d xs → WkAt K ω μ H ⟨pairs xs, keeps d xs⟩ (enJ K d a)
  | zipT {a b : Addr} {xs ys : List D} : DV K ω μ H (.tup xs) (.ref a) → DV K ω μ H (.tup ys) (.ref b) → WkAt K ω μ H ⟨xs.zipWith (fun x y => .tup [x, y]) ys, fun _ => true⟩ (RZ.ItzT K a b)
  | zipL {a b : Addr} {xs ys : List D} : DV K ω μ H (.lst xs) (.ref a) → DV K ω μ H (.lst ys) (.ref b) → WkAt K ω μ H ⟨xs.zipWith (fun x y => .tup [x, y]) ys, fun _ => true⟩ (Itz K a b)
section
variable {K : PySem.W.Frag} {ω μ μ' : List Addr} {H H' : Hp} {w : Wk} {J : L2.It} {st : Sto}
theorem WkAt.step (h : WkAt K ω μ H w J) (s : Step [] μ H μ' H') : WkAt K ω μ' H' w J := by
  cases h with
  | seq h t => exact .seq (h.step s) t
  | rng h t => exact .rng h t
  | enm h t => exact .enm (h.step s) t
  | zipT h t => exact .zipT (h.step s) (t.step s)
  | zipL h t => exact .zipL (h.step s) (t.step s)
theorem WkAt.stepW (h : WkAt K ω μ H w J) (s : Step ω μ H μ' H') : WkAt K ω μ' H' w J := by
  cases h with
  | seq h t => exact .seq (h.stepW s) t
  | rng h t => exact .rng h t
  | enm h t => exact .enm (h.stepW s) t
  | zipT h t => exact .zipT (h.stepW s) (t.stepW s)
  | zipL h t => exact .zipL (h.stepW s) (t.stepW s)
theorem WkAt.mask {p : Addr} {o : HO} (hp : H p = none) (h : WkAt K ω μ H w J) : WkAt K (p :: ω) μ (upd H p o) w J := by
  cases h with
  | seq h t => exact .seq (h.mask hp) t
  | rng h t => exact .rng h t
  | enm h t => exact .enm (h.mask hp) t
  | zipT h t => exact .zipT (h.mask hp) (t.mask hp)
  | zipL h t => exact .zipL (h.mask hp) (t.mask hp)
mutual
theorem same_eq : ∀ (a b : D), D.same a b = true → a = b
  | .non, b, h => by cases b <;> simp [D.same] at h <;> rfl
  | .bl x, b, h => by cases b <;> simp [D.same] at h <;> rw [h]
  | .int x, b, h => by cases b <;> simp [D.same] at h <;> rw [h]
  | .str x, b, h => by cases b <;> simp [D.same] at h <;> rw [h]
  | .loc x, b, h => by cases b <;> simp [D.same] at h <;> rw [h]
  | .tup x, b, h => by cases b <;> simp [D.same] at h <;> rw [sames_eq _ _ h]
  | .lst x, b, h => by cases b <;> simp [D.same] at h <;> rw [sames_eq _ _ h]
  | .scr x, b, h => by cases b <;> simp [D.same] at h <;> rw [sames_eq _ _ h]
theorem sames_eq : ∀ (a b : List D), D.sames a b = true → a = b
  | [], b, h => by cases b <;> simp [D.sames] at h <;> rfl
  | x :: xs, b, h => by
    cases b with
    | nil => simp [D.sames] at h
    | cons y ys =>
      simp only [D.sames, Bool.and_eq_true] at h
      rw [same_eq _ _ h.1, sames_eq _ _ h.2]
end
/-- the source as it stands now -/
theorem src_at {d : D} {a : Addr} {xs : List D} (r : RS K ω μ st H) (h : DV K ω μ H d (.ref a)) (t : treeIs d xs) (ok : keeps d xs st = true) :
    ∃ vs, ((∃ ys, d = .tup ys) ∧ SqT K H a vs ∨ (∀ ys, d ≠ .tup ys) ∧ SqL K H a vs) ∧ DVs K ω μ H xs vs := by
  cases h with
  | tup q l hv =>
    have e : xs = _ := t
    subst e
    exact ⟨_, .inl ⟨⟨_, rfl⟩, q.sq⟩, hv⟩
  | lst q l hv =>
    have e : xs = _ := t
    subst e
    exact ⟨_, .inr ⟨(fun ys z => nomatch z), q.sq⟩, hv⟩
  | scr q l hv =>
    have e : xs = _ := t
    subst e
    exact ⟨_, .inr ⟨(fun ys z => nomatch z), q.sq⟩, hv⟩
  | @loc _ n hm =>
    simp only [keeps] at ok
    cases hn : st[n]? with
    | none => rw [hn] at ok; simp at ok
    | some o =>
      rw [hn] at ok
      cases o with
      | dct _ => simp at ok
      | lst ys =>
        obtain rfl := sames_eq _ _ ok
        obtain ⟨b, h1, vs, h2, h3, h4⟩ := r.ob n _ hn
        rw [hm] at h1; cases h1
        exact ⟨vs, .inr ⟨(fun ys z => nomatch z), .of h2⟩, h4⟩
theorem seqJ_tup {ys : List D} {a : Addr} : seqJ K (.tup ys) a = Itt K a := rfl
theorem seqJ_not {d : D} {a : Addr} (h : ∀ ys, d ≠ .tup ys) : seqJ K d a = Itl K a := by
  cases d <;> first | rfl | exact absurd rfl (h _)
theorem enJ_not {d : D} {a : Addr} (h : ∀ ys, d ≠ .tup ys) : enJ K d a = Ite K a := by
  cases d <;> first | rfl | exact absurd rfl (h _)
theorem pairs_length (xs : List D) : (pairs xs).length = xs.length := by simp [pairs]
theorem pairs_get {xs : List D} {i : Nat} {x : D} (h : xs[i]? = some x) : (pairs xs)[i]? = some (.tup [.int (i : Nat), x]) := by
  have hl := (List.getElem?_eq_some_iff.mp h).1
  unfold pairs
  rw [List.getElem?_zipWith, h, List.getElem?_range hl]
theorem two_le : (2 : Nat) ≤ sizeLine := by rw [sizeLine_eq]; decide
theorem WkAt.stop (h : WkAt K ω μ H w J) (r : RS K ω μ st H) (ok : w.ok st = true) {i : Nat} (hi : w.items.length ≤ i) : J.stop i H := by
  cases h with
  | seq h t =>
    obtain ⟨vs, hs, hv⟩ := src_at r h t ok
    have hl := hv.length
    have hi : _ ≤ i := hi
    rcases hs with ⟨⟨ys, rfl⟩, hs⟩ | ⟨hn, hs⟩
    · exact ⟨vs, hs, by simp only at hi; omega⟩
    · rw [seqJ_not hn]
      exact ⟨vs, hs, by simp only at hi; omega⟩
  | rng h t =>
    show _ ≤ i
    simp only at hi
    omega
  | enm h t =>
    obtain ⟨vs, hs, hv⟩ := src_at r h t ok
    have hl := hv.length
    simp only [pairs_length] at hi
    rcases hs with ⟨⟨ys, rfl⟩, hs⟩ | ⟨hn, hs⟩
    · exact ⟨vs, hs, by omega⟩
    · rw [enJ_not hn]
      exact ⟨vs, hs, by omega⟩
  | zipT h t =>
    simp only [List.length_zipWith] at hi
    cases h with
    | tup q l hv =>
      cases t with
      | tup q2 l2 hv2 =>
        have z := hv.length
        have z2 := hv2.length
        refine ⟨_, _, q.sq, q2.sq, ?_⟩
        rw [← z, ← z2]
        omega
  | zipL h t =>
    simp only [List.length_zipWith] at hi
    cases h with
    | lst q l hv =>
      cases t with
      | lst q2 l2 hv2 =>
        have z := hv.length
        have z2 := hv2.length
        refine ⟨_, _, q.sq, q2.sq, ?_⟩
        rw [← z, ← z2]
        omega
theorem WkAt.go (h : WkAt K ω μ H w J) (r : RS K ω μ st H) (ok : w.ok st = true) {i : Nat} {d : D} (hi : w.items[i]? = some d) :
    J.go i H ∧ ∀ x H', J.yld i H x H' → Step [] μ H μ H' ∧ RS K ω μ st H' ∧ DV K ω μ H' d x := by
  cases h with
  | seq h t =>
    obtain ⟨vs, hs, hv⟩ := src_at r h t ok
    obtain ⟨v, h1, h2⟩ := hv.get hi
    rcases hs with ⟨⟨ys, rfl⟩, hs⟩ | ⟨hn, hs⟩
    · refine ⟨⟨vs, v, hs, h1⟩, fun x H' y => ?_⟩
      obtain ⟨rfl, y⟩ := y
      have q := y vs hs
      rw [h1] at q; cases q
      exact ⟨.refl, r, h2⟩
    · rw [seqJ_not hn]
      refine ⟨⟨vs, v, hs, h1⟩, fun x H' y => ?_⟩
      obtain ⟨rfl, y⟩ := y
      have q := y vs hs
      rw [h1] at q; cases q
      exact ⟨.refl, r, h2⟩
  | rng h t =>
    have hl := (List.getElem?_eq_some_iff.mp hi).1
    simp only at hl hi
    refine ⟨by show i < _; omega, fun x H' y => ?_⟩
    obtain ⟨rfl, rfl⟩ := y
    have q := t i (by omega)
    rw [hi] at q; cases q
    exact ⟨.refl, r, .int _⟩
  | enm h t =>
    rename_i d0 a xs
    obtain ⟨vs, hs, hv⟩ := src_at r h t ok
    have hl : i < xs.length := by
      have := (List.getElem?_eq_some_iff.mp hi).1
      simp only [pairs_length] at this
      exact this
    have hx : xs[i]? = some xs[i] := List.getElem?_eq_getElem hl
    have hd := pairs_get hx
    simp only at hi
    rw [hd] at hi
    cases hi
    obtain ⟨v, h1, h2⟩ := hv.get hx
    have mk : ∀ {T : Addr}, H T = none → Step [] μ H μ (upd H T (.tup [.int (i : Nat), v])) ∧ RS K ω μ st (upd H T (.tup [.int (i : Nat), v])) ∧ DV K ω μ (upd H T (.tup [.int (i : Nat), v])) (.tup [.int (i : Nat), xs[i]]) (.ref T) := fun {T} hT =>
      ⟨(r.fresh hT).1, (r.fresh hT).2, .tupOf r hT two_le (.cons (.int _) (.cons h2 .nil))⟩
    rcases hs with ⟨⟨ys, rfl⟩, hs⟩ | ⟨hn, hs⟩
    · refine ⟨⟨vs, v, hs, h1⟩, fun x H' y => ?_⟩
      obtain ⟨T, x', rfl, hT, rfl, y⟩ := y
      have q := y vs hs
      rw [h1] at q; cases q
      exact mk hT
    · rw [enJ_not hn]
      refine ⟨⟨vs, v, hs, h1⟩, fun x H' y => ?_⟩
      obtain ⟨T, x', rfl, hT, rfl, y⟩ := y
      have q := y vs hs
      rw [h1] at q; cases q
      exact mk hT
  | zipT h t =>
    rename_i a b xs ys
    obtain ⟨x0, y0, e1, e2, e3⟩ : ∃ x0 y0, xs[i]? = some x0 ∧ ys[i]? = some y0 ∧ d = .tup [x0, y0] := by
      simp only [List.getElem?_zipWith] at hi
      cases e1 : xs[i]? with
      | none => rw [e1] at hi; simp at hi
      | some x0 =>
        cases e2 : ys[i]? with
        | none => rw [e1, e2] at hi; simp at hi
        | some y0 => rw [e1, e2] at hi; exact ⟨x0, y0, rfl, rfl, by simpa using hi.symm⟩
    subst e3
    cases h with
    | tup q l hv =>
      cases t with
      | tup q2 l2 hv2 =>
        obtain ⟨v1, h1, g1⟩ := hv.get e1
        obtain ⟨v2, h2, g2⟩ := hv2.get e2
        refine ⟨⟨_, _, _, _, q.sq, q2.sq, h1, h2⟩, fun x H' y => ?_⟩
        obtain ⟨T, x', y', rfl, hT, rfl, z1, z2⟩ := y
        have k1 := z1 _ q.sq
        have k2 := z2 _ q2.sq
        rw [h1] at k1; cases k1
        rw [h2] at k2; cases k2
        exact ⟨(r.fresh hT).1, (r.fresh hT).2, .tupOf r hT two_le (.cons g1 (.cons g2 .nil))⟩
  | zipL h t =>
    rename_i a b xs ys
    obtain ⟨x0, y0, e1, e2, e3⟩ : ∃ x0 y0, xs[i]? = some x0 ∧ ys[i]? = some y0 ∧ d = .tup [x0, y0] := by
      simp only [List.getElem?_zipWith] at hi
      cases e1 : xs[i]? with
      | none => rw [e1] at hi; simp at hi
      | some x0 =>
        cases e2 : ys[i]? with
        | none => rw [e1, e2] at hi; simp at hi
        | some y0 => rw [e1, e2] at hi; exact ⟨x0, y0, rfl, rfl, by simpa using hi.symm⟩
    subst e3
    cases h with
    | lst q l hv =>
      cases t with
      | lst q2 l2 hv2 =>
        obtain ⟨v1, h1, g1⟩ := hv.get e1
        obtain ⟨v2, h2, g2⟩ := hv2.get e2
        refine ⟨⟨_, _, _, _, q.sq, q2.sq, h1, h2⟩, fun x H' y => ?_⟩
        obtain ⟨T, x', y', rfl, hT, rfl, z1, z2⟩ := y
        have k1 := z1 _ q.sq
        have k2 := z2 _ q2.sq
        rw [h1] at k1; cases k1
        rw [h2] at k2; cases k2
        exact ⟨(r.fresh hT).1, (r.fresh hT).2, .tupOf r hT two_le (.cons g1 (.cons g2 .nil))⟩
end
/-! ### the forms -/
def tI (K : PySem.W.Frag) (m : MW) : TI := fun σ H R => ∃ ω μ δ st w st', Rel K ω μ δ st σ H ∧ m δ st = some (w, st') ∧ ∀ μ' J H', Step [] μ H μ' H' → RS K ω μ' st' H' → WkAt K ω μ' H' w J → R J H'
theorem _root_.L2.PI.wk {X : Cx} {tg e : Expr} {t t' : TI} (h : PI X tg e t) (w : ∀ σ H Q, t' σ H Q → t σ H Q) : PI X tg e t' := ⟨fun pins s σ H Q I q => h.run pins s σ H Q I (w _ _ _ q)⟩
section
variable {X : Cx} {C : Cfg} {tg a b : Expr} {ia ib : E} {pos : Pos}
/-- over a list or a tuple -/
def iSeq (K : PySem.W.Frag) (tl : TE) : TI := fun σ H R => tl σ H fun x H1 => ∃ a xs, x = .ref a ∧ ((SqL K H1 a xs ∧ R (Itl K a) H1) ∨ (SqT K H1 a xs ∧ R (Itt K a) H1))
theorem pi_seq {l : Expr} {tl : TE} (hl : PE X l tl) : PI X tg l (iSeq X.K tl) := by
  refine ⟨fun pins s σ H R I h => ?_⟩
  refine thn (hl.run pins s σ H _ I h) fun v s1 ⟨x, H1, I1, r1, a, xs, e, q1⟩ => ?_
  subst e
  cases r1
  have fr : ∀ b ∈ [s1.heap.objs.size], FpOk X pins H1 b := fun b hb => by
    have e : b = s1.heap.objs.size := by simpa using hb
    subst e
    exact I1.fpOk (Nat.le_refl _) (I1.hok.fresh (Nat.le_refl _))
  rcases q1 with ⟨hq, q⟩ | ⟨hq, q⟩
  · obtain ⟨its, rv, p, hz⟩ := I1.list hq
    refine wpAny_pyIter_list p.isList ?_
    exact ⟨s1.heap.objs.size, [s1.heap.objs.size], _, _, H1, rfl, I1.kept (t' := s1.toks) fun b o e => Heap.get?_push_of_some _ e, turn_list a _, ⟨_, Heap.get?_push_size _ rfl, rfl, rfl⟩, fr, q⟩
  · obtain ⟨its, rv, p, hz⟩ := I1.tuple hq
    refine wpAny_pyIter_tuple (show s1.heap.IsTuple a its.toArray from p) ?_
    exact ⟨s1.heap.objs.size, [s1.heap.objs.size], _, _, H1, rfl, I1.kept (t' := s1.toks) fun b o e => Heap.get?_push_of_some _ e, turn_tuple a _, ⟨_, Heap.get?_push_size _ rfl, rfl, rfl⟩, fr, q⟩
theorem seq_src {K : PySem.W.Frag} {ω μ : List Addr} {H : Hp} {st : Sto} {d : D} {v : V} {xs : List D} (r : RS K ω μ st H) (h : DV K ω μ H d v) (e : seqOf st d = some xs) :
    ∃ a vs, v = .ref a ∧ treeIs d xs ∧ ((∃ ys, d = .tup ys) ∧ SqT K H a vs ∨ (∀ ys, d ≠ .tup ys) ∧ SqL K H a vs) := by
  unfold seqOf at e
  cases h with
  | tup t l q => simp [der] at e; subst e; exact ⟨_, _, rfl, rfl, .inl ⟨⟨_, rfl⟩, t.sq⟩⟩
  | lst t l q => simp [der] at e; subst e; exact ⟨_, _, rfl, rfl, .inr ⟨(fun ys z => nomatch z), t.sq⟩⟩
  | scr t l q => simp [der] at e; subst e; exact ⟨_, _, rfl, rfl, .inr ⟨(fun ys z => nomatch z), t.sq⟩⟩
  | @loc a n hm =>
    simp only [der] at e
    cases hn : st[n]? with
    | none => rw [hn] at e; simp at e
    | some o =>
      rw [hn] at e
      cases o with
      | dct _ => simp at e
      | lst ys =>
        simp at e; subst e
        obtain ⟨b, h1, vs, h2, h3, h4⟩ := r.ob n _ hn
        rw [hm] at h1; cases h1
        exact ⟨_, vs, rfl, trivial, .inr ⟨(fun ys z => nomatch z), .of h2⟩⟩
  | _ => simp [der] at e
theorem i_seq (ha : PE X a (tD X.K (evE C ia))) : PI X tg a (tI X.K (evI C (.seq ia))) :=
  (pi_seq ha).wk fun σ H Q ⟨ω, μ, δ, st, w, st', R, e, q⟩ => by
    simp only [evI] at e
    obtain ⟨⟨x, st1⟩, e1, e2⟩ := Option.bind_eq_some_iff.mp e
    obtain ⟨xs, e3, e4⟩ := Option.map_eq_some_iff.mp e2
    obtain ⟨rfl, rfl⟩ := Prod.mk.inj e4
    refine ⟨ω, μ, δ, st, x, st1, R, e1, fun μ1 v1 H1 s1 r1 d1 => ?_⟩
    obtain ⟨ad, vs, rfl, t, hs⟩ := seq_src r1 d1 e3
    refine ⟨ad, vs, rfl, ?_⟩
    have k := q μ1 _ H1 s1 r1 (.seq d1 t)
    rcases hs with ⟨⟨ys, rfl⟩, hs⟩ | ⟨hn, hs⟩
    · exact .inr ⟨hs, k⟩
    · rw [seqJ_not hn] at k
      exact .inl ⟨hs, k⟩
theorem i_enm {elts : List Expr} {kk : Nat} {tpos p : Pos} (hg : Gl X "enumerate") (hm : X.mg "enumerate" = none) (ha : PE X a (tD X.K (evE C ia))) (hs : starEach [a] X.env = (false, eval a X.env) :: starEach [] X.env) :
    PI X (.Tuple elts kk tpos) (.Call (.Name "enumerate" p) [a] [] pos) (tI X.K (evI C (.enm ia))) :=
  (pi_enumA hg hm (pa_cons ha pa_nil hs) hs).wk fun σ H Q ⟨ω, μ, δ, st, w, st', R, e, q⟩ => by
    simp only [evI] at e
    obtain ⟨⟨x, st1⟩, e1, e2⟩ := Option.bind_eq_some_iff.mp e
    obtain ⟨xs, e3, e4⟩ := Option.map_eq_some_iff.mp e2
    obtain ⟨rfl, rfl⟩ := Prod.mk.inj e4
    refine ⟨ω, μ, δ, st, x, st1, R, e1, fun μ1 v1 H1 s1 r1 d1 => ?_⟩
    obtain ⟨ad, vs, rfl, t, hs⟩ := seq_src r1 d1 e3
    refine ⟨ad, vs, rfl, ?_⟩
    have k := q μ1 _ H1 s1 r1 (.enm d1 t)
    rcases hs with ⟨⟨ys, rfl⟩, hs⟩ | ⟨hn, hs⟩
    · exact .inr ⟨hs, k⟩
    · rw [enJ_not hn] at k
      exact .inl ⟨hs, k⟩
theorem i_rng1 {p : Pos} (hg : Gl X "range") (hm : X.mg "range" = none) (ha : PE X a (tD X.K (evE C ia))) (hs : starEach [a] X.env = (false, eval a X.env) :: starEach [] X.env) :
    PI X tg (.Call (.Name "range" p) [a] [] pos) (tI X.K (evI C (.rng1 ia))) :=
  (pi_range1 hg hm (pa_cons ha pa_nil hs) hs).wk fun σ H Q ⟨ω, μ, δ, st, w, st', R, e, q⟩ => by
    simp only [evI] at e
    obtain ⟨⟨x, st1⟩, e1, e2⟩ := Option.bind_eq_some_iff.mp e
    refine ⟨ω, μ, δ, st, x, st1, R, e1, fun μ1 v1 H1 s1 r1 d1 => ?_⟩
    cases d1 <;> simp only [reduceCtorEq] at e2
    rename_i i
    split at e2
    · rename_i hi
      obtain ⟨rfl, rfl⟩ := Prod.mk.inj (Option.some.inj e2)
      unfold LIM at hi
      exact ⟨i, rfl, by omega, by omega, q μ1 _ H1 s1 r1 (.rng (by simp [rngD]) fun j hj => by simp [rngD, hj])⟩
    · cases e2
theorem i_rng2 {p : Pos} (hg : Gl X "range") (hm : X.mg "range" = none) (ha : PE X a (tD X.K (evE C ia))) (hb : PE X b (tD X.K (evE C ib))) (hs : starEach [a, b] X.env = (false, eval a X.env) :: starEach [b] X.env) (hs2 : starEach [b] X.env = (false, eval b X.env) :: starEach [] X.env) :
    PI X tg (.Call (.Name "range" p) [a, b] [] pos) (tI X.K (evI C (.rng2 ia ib))) :=
  (pi_range2 hg hm (pa_cons ha (pa_cons hb pa_nil hs2) hs) (by rw [hs, hs2] <;> rfl) hs2).wk fun σ H Q ⟨ω, μ, δ, st, w, st', R, e, q⟩ => by
    simp only [evI] at e
    obtain ⟨⟨x, st1⟩, e1, e2⟩ := Option.bind_eq_some_iff.mp e
    obtain ⟨⟨y, st2⟩, e3, e4⟩ := Option.bind_eq_some_iff.mp e2
    refine ⟨ω, μ, δ, st, x, st1, R, e1, fun μ1 v1 H1 s1 r1 d1 => ⟨ω, μ1, δ, st1, y, st2, R.step s1 r1, e3, fun μ2 v2 H2 s2 r2 d2 => ?_⟩⟩
    cases d1 <;> cases d2 <;> simp only [reduceCtorEq] at e4
    rename_i i j
    split at e4
    · rename_i hi
      obtain ⟨rfl, rfl⟩ := Prod.mk.inj (Option.some.inj e4)
      unfold LIM at hi
      exact ⟨i, j, rfl, by omega, q μ2 _ H2 (s1.trans s2) r2 (.rng (by simp [rng2D]) fun k hk => by simp [rng2D, hk])⟩
    · cases e4
theorem i_zip {elts : List Expr} {kk : Nat} {tpos p : Pos} (hg : Gl X "zip") (hm : X.mg "zip" = none) (ha : PE X a (tD X.K (evE C ia))) (hb : PE X b (tD X.K (evE C ib))) (hs : starEach [a, b] X.env = (false, eval a X.env) :: starEach [b] X.env) (hs2 : starEach [b] X.env = (false, eval b X.env) :: starEach [] X.env) :
    PI X (.Tuple elts kk tpos) (.Call (.Name "zip" p) [a, b] [] pos) (tI X.K (evI C (.zip ia ib))) :=
  (RZ.pi_zipA hg hm (pa_cons ha (pa_cons hb pa_nil hs2) hs) hs (by rw [hs2] <;> rfl)).wk fun σ H Q ⟨ω, μ, δ, st, w, st', R, e, q⟩ => by
    simp only [evI] at e
    obtain ⟨⟨x, st1⟩, e1, e2⟩ := Option.bind_eq_some_iff.mp e
    obtain ⟨⟨y, st2⟩, e3, e4⟩ := Option.bind_eq_some_iff.mp e2
    refine ⟨ω, μ, δ, st, x, st1, R, e1, fun μ1 v1 H1 s1 r1 d1 => ⟨ω, μ1, δ, st1, y, st2, R.step s1 r1, e3, fun μ2 v2 H2 s2 r2 d2 => ?_⟩⟩
    have d1 := d1.step s2
    have f1 := d1
    have f2 := d2
    cases d1 with
    | tup t1 l1 q1 =>
      cases d2 <;> simp only [reduceCtorEq] at e4
      rename_i t2 l2 q2
      obtain ⟨rfl, rfl⟩ := Prod.mk.inj (Option.some.inj e4)
      exact ⟨_, _, _, _, rfl, .inr ⟨t1.sq, t2.sq, q μ2 _ H2 (s1.trans s2) r2 (.zipT f1 f2)⟩⟩
    | lst t1 l1 q1 =>
      cases d2 <;> simp only [reduceCtorEq] at e4
      rename_i t2 l2 q2
      obtain ⟨rfl, rfl⟩ := Prod.mk.inj (Option.some.inj e4)
      exact ⟨_, _, _, _, rfl, .inl ⟨t1.sq, t2.sq, q μ2 _ H2 (s1.trans s2) r2 (.zipL f1 f2)⟩⟩
    | _ => simp at e4
end
end Ev
set_option Elab.async false
set_option linter.all false
set_option maxRecDepth 100000
set_option maxHeartbeats 4000000
/-! Targets and comprehensions, over trees. -/
namespace Ev
open PySem PySem.Spec PyProof.Rows L2
/-! ### targets -/
def tG (K : PySem.W.Frag) (g : D → Env → Option Env) (is : List Nat) : TG := fun v σ H Q => ∃ ω μ δ st d δ', Rel K ω μ δ st σ H ∧ DV K ω μ H d v ∧ g d δ = some δ' ∧ ∀ σ', Rel K ω μ δ' st σ' H → (∀ i, i ∉ is → σ'[i]? = σ[i]?) → Q σ' H
def tGs (K : PySem.W.Frag) (g : List D → Env → Option Env) (is : List Nat) : TGs := fun vs σ H Q => ∃ ω μ δ st ds δ', Rel K ω μ δ st σ H ∧ DVs K ω μ H ds vs ∧ g ds δ = some δ' ∧ ∀ σ', Rel K ω μ δ' st σ' H → (∀ i, i ∉ is → σ'[i]? = σ[i]?) → Q σ' H
mutual
def G.ixs : G → List Nat
  | .name i => [i]
  | .tup gs => Gs.ixs gs
def Gs.ixs : List G → List Nat
  | [] => []
  | g :: gs => G.ixs g ++ Gs.ixs gs
end
theorem _root_.L2.PG.wk {X : Cx} {e : Expr} {t t' : TG} (h : PG X e t) (w : ∀ v σ H Q, t' v σ H Q → t v σ H Q) : PG X e t' := ⟨fun pins s σ H v u Q I r q => h.run pins s σ H v u Q I r (w _ _ _ _ q)⟩
theorem _root_.L2.PGs.wk {X : Cx} {e : List Expr} {t t' : TGs} (h : PGs X e t) (w : ∀ v σ H Q, t' v σ H Q → t v σ H Q) : PGs X e t' := ⟨fun pins s σ H v u Q I r q => h.run pins s σ H v u Q I r (w _ _ _ _ q)⟩
section
variable {X : Cx}
theorem g_name {i : Nat} {x : Str} {pos : Pos} (hN : X.N.Nodup) (hi : X.N[i]? = some x) (hx : Loc X.env.scope x) (hf : X.fn x = true ∨ X.env.scope.names.lookup x = some .local) : PG X (.Name x pos) (tG X.K (evG (.name i)) (G.ixs (.name i))) :=
  (pg_name hN hi hx hf).wk fun v σ H Q ⟨ω, μ, δ, st, d, δ', R, hd, e, q⟩ => by
    simp only [evG, Option.some.injEq] at e
    subst e
    exact q _ (R.set hd) fun j hj => by rw [List.getElem?_set_ne (fun z => hj (by simp [G.ixs, z]))]
theorem gs_nil : PGs X [] (tGs X.K (evGs []) (Gs.ixs [])) := pgs_nil.wk fun v σ H Q ⟨ω, μ, δ, st, ds, δ', R, hd, e, q⟩ => by
  cases hd with
  | nil =>
    simp only [evGs, Option.some.injEq] at e
    subst e
    exact ⟨rfl, q σ R fun _ _ => rfl⟩
  | cons _ _ => simp [evGs] at e
theorem gs_cons {g : G} {gs : List G} {e : Expr} {es : List Expr} (h1 : PG X e (tG X.K (evG g) (G.ixs g))) (h2 : PGs X es (tGs X.K (evGs gs) (Gs.ixs gs)))
    (hs : (assignEach (e :: es) X.env).map (·.2) = assign e X.env :: (assignEach es X.env).map (·.2)) : PGs X (e :: es) (tGs X.K (evGs (g :: gs)) (Gs.ixs (g :: gs))) :=
  (pgs_cons h1 h2 hs).wk fun v σ H Q ⟨ω, μ, δ, st, ds, δ', R, hd, e, q⟩ => by
    cases hd with
    | nil => simp [evGs] at e
    | cons d1 d2 =>
      simp only [evGs] at e
      obtain ⟨δ1, e1, e2⟩ := Option.bind_eq_some_iff.mp e
      refine ⟨_, _, rfl, ω, μ, δ, st, _, δ1, R, d1, e1, fun σ1 R1 u1 => ⟨ω, μ, δ1, st, _, δ', R1, d2, e2, fun σ2 R2 u2 => q σ2 R2 fun i hi => ?_⟩⟩
      simp only [Gs.ixs, List.mem_append, not_or] at hi
      rw [u2 i hi.2, u1 i hi.1]
theorem evGs_len : ∀ {gs : List G} {ds : List D} {δ δ' : Env}, evGs gs ds δ = some δ' → ds.length = gs.length
  | [], [], _, _, _ => rfl
  | [], _ :: _, _, _, e => by simp [evGs] at e
  | _ :: _, [], _, _, e => by simp [evGs] at e
  | g :: gs, d :: ds, δ, δ', e => by
    simp only [evGs] at e
    obtain ⟨δ1, e1, e2⟩ := Option.bind_eq_some_iff.mp e
    simp [evGs_len e2]
theorem g_tup {gs : List G} {es : List Expr} {k : Nat} {pos : Pos} (hc : X.calm = true) (h : PGs X es (tGs X.K (evGs gs) (Gs.ixs gs))) (hn : (assignEach es X.env).length = gs.length) (hst : (assignEach es X.env).findIdx? (·.1) = none) :
    PG X (.Tuple es k pos) (tG X.K (evG (.tup gs)) (G.ixs (.tup gs))) :=
  (pg_tup hc h hn hst).wk fun v σ H Q ⟨ω, μ, δ, st, d, δ', R, hd, e, q⟩ => by
    cases hd with
    | tup t l hv =>
      simp only [evG] at e
      exact ⟨_, _, rfl, t.sq, by rw [← hv.length, evGs_len e], ω, μ, δ, st, _, δ', R, hv, e, q⟩
    | _ => simp [evG] at e
end
mutual
theorem evG_len : ∀ {g : G} {d : D} {δ δ' : Env}, evG g d δ = some δ' → δ'.length = δ.length
  | .name i, d, δ, δ', e => by
    simp only [evG, Option.some.injEq] at e
    subst e
    simp
  | .tup gs, d, δ, δ', e => by
    cases d with
    | tup ds => exact evGs_lenE (gs := gs) (by simpa only [evG] using e)
    | _ => simp [evG] at e
theorem evGs_lenE : ∀ {gs : List G} {ds : List D} {δ δ' : Env}, evGs gs ds δ = some δ' → δ'.length = δ.length
  | [], [], _, _, e => by
    simp only [evGs, Option.some.injEq] at e
    subst e
    rfl
  | [], _ :: _, _, _, e => by simp [evGs] at e
  | _ :: _, [], _, _, e => by simp [evGs] at e
  | g :: gs, d :: ds, δ, δ', e => by
    simp only [evGs] at e
    obtain ⟨δ1, e1, e2⟩ := Option.bind_eq_some_iff.mp e
    rw [evGs_lenE (gs := gs) e2, evG_len (g := g) e1]
end
/-! ### comprehensions -/
theorem wipe_ins {σ : L2.St} {i : Nat} : ∀ {vs : List Nat}, i ∈ vs → i < σ.length → (L2.wipe σ vs)[i]? = some none
  | [], h, _ => by simp at h
  | v :: vs, h, hl => by
    unfold L2.wipe
    by_cases e : v = i
    · subst e
      rw [List.getElem?_set_self (by rw [wipe_length]; exact hl)]
    · rw [List.getElem?_set_ne e]
      exact wipe_ins (by rcases List.mem_cons.mp h with z | z; exact absurd z.symm e; exact z) hl
theorem wipe_same {σ τ : L2.St} {vs : List Nat} (hl : τ.length = σ.length) (h : ∀ i, i ∉ vs → τ[i]? = σ[i]?) : L2.wipe τ vs = L2.wipe σ vs := by
  apply List.ext_getElem?
  intro i
  by_cases hi : i ∈ vs
  · by_cases hlt : i < σ.length
    · rw [wipe_ins hi hlt, wipe_ins hi (by omega)]
    · rw [List.getElem?_eq_none (by rw [wipe_length]; omega), List.getElem?_eq_none (by rw [wipe_length]; omega)]
  · rw [wipe_out hi, wipe_out hi, h i hi]
theorem wipe_wipe {σ τ : L2.St} {vs : List Nat} (hl : τ.length = σ.length) (h : ∀ i, i ∉ vs → τ[i]? = (L2.wipe σ vs)[i]?) : L2.wipe τ vs = L2.wipe σ vs :=
  wipe_same hl fun i hi => by rw [h i hi, wipe_out hi]
section
variable {X : Cx} {C : Cfg}
theorem drop_none {α : Type} {l : List α} {i : Nat} (h : l[i]? = none) : l.drop i = [] := List.drop_eq_nil_of_le (List.getElem?_eq_none_iff.mp h)
theorem drop_some {α : Type} {l : List α} {i : Nat} {a : α} (h : l[i]? = some a) : l.drop i = a :: l.drop (i + 1) := by
  obtain ⟨hl, rfl⟩ := List.getElem?_eq_some_iff.mp h
  exact List.drop_eq_getElem_cons hl
theorem h_compR (m : Bool) (own : List Nat) (g : G) (it : It) (c e : E) (hg : ∀ i ∈ G.ixs g, i ∈ own) (σ : L2.St) (H : Hp) (Q : VK) (h : tD X.K (evE C (.comp m own g it c e)) σ H Q) :
    tLc (tI X.K (evI C it)) (tG X.K (evG g) (G.ixs g)) (tT X.K (evE C c)) (tD X.K (evE C e)) own σ H Q := by
  obtain ⟨ω, μ, δ, st, d, st', R, e0, q⟩ := h
  simp only [evE] at e0
  obtain ⟨⟨w, st1⟩, e1, e2⟩ := Option.bind_eq_some_iff.mp e0
  obtain ⟨⟨xs, st2⟩, e3, e4⟩ := Option.bind_eq_some_iff.mp e2
  simp only at e3 e4
  have hlim := mkL_len e4
  refine ⟨ω, μ, δ, st, w, st1, R, e1, fun μ1 J H1 s1 r1 wk D hD => ?_⟩
  have wkD := wk.mask (o := .lst []) hD
  have hDw : D ∉ ω := r1.nw hD
  let W : Nat → Nat → Hp → Prop := fun i n H2 => n = w.items.length - i ∧ ∃ μ2 st3 acc accD rest, Rel X.K (D :: ω) μ2 (wipeD δ own) st3 (L2.wipe σ own) H2 ∧ Step [D] μ1 (upd H1 D (.lst [])) μ2 H2 ∧ H2 D = some (.lst acc) ∧ DVs X.K (D :: ω) μ2 H2 accD acc ∧
    evC (evG g) (evE C c) (evE C e) w.ok (wipeD δ own) (w.items.drop i) st3 = some (rest, st2) ∧ accD ++ rest = xs
  refine ⟨W, ⟨_, rfl, μ1, st1, [], [], xs, ((R.step s1 r1).mask hD).wipe own, .refl, upd_same, .nil, by rw [List.drop_zero]; exact e3, rfl⟩, ?_⟩
  rintro i n H2 ⟨rfl, μ2, st3, acc, accD, rest, R2, S2, hacc, hv, ev, hx⟩
  have wk2 := wkD.stepW (S2.one List.mem_cons_self)
  cases hi : w.items[i]? with
  | none =>
    rw [drop_none hi] at ev
    simp only [evC] at ev
    split at ev
    · rename_i hok
      obtain ⟨rfl, rfl⟩ := Prod.mk.inj (Option.some.inj ev)
      refine .inl ⟨wk2.stop R2.rs hok (List.getElem?_eq_none_iff.mp hi), ?_⟩
      rw [List.append_nil] at hx
      subst hx
      exact Fin.grown e4 (fun μ' v H' s r dv => q μ' v H' (s1.trans s) r dv) hD hDw S2 R2.rs hv hacc
    · cases ev
  | some dd =>
    rw [drop_some hi] at ev
    simp only [evC] at ev
    split at ev
    · rename_i hok
      obtain ⟨δ1, g1, ev1⟩ := Option.bind_eq_some_iff.mp ev
      obtain ⟨⟨b, st4⟩, c1, ev2⟩ := Option.bind_eq_some_iff.mp ev1
      simp only at ev2
      obtain ⟨jgo, jy⟩ := wk2.go R2.rs hok hi
      have hlt : i < w.items.length := (List.getElem?_eq_some_iff.mp hi).1
      refine .inr ⟨jgo, fun H' => W (i + 1) (w.items.length - (i + 1)) H', fun H' w' => ⟨_, by omega, w'⟩, fun x H3 y => ?_⟩
      obtain ⟨s3, r3, d3⟩ := jy x H3 y
      refine ⟨D :: ω, μ2, wipeD δ own, st3, dd, δ1, R2.step s3 r3, d3, g1, fun σ4 R4 u4 => ⟨?_, ?_⟩⟩
      · have hl : σ4.length = σ.length := by
          have a1 := R4.len
          have a2 := R2.len
          rw [wipe_length] at a2
          have a3 : δ1.length = (wipeD δ own).length := by
            have := (R2.step s3 r3).len
            rw [wipe_length] at this
            exact evG_len g1
          omega
        exact wipe_wipe hl fun j hj => u4 j fun z => hj (hg j z)
      · obtain ⟨k, rfl⟩ : ∃ k, b = .bl k := by
          cases b with
          | bl k => exact ⟨k, rfl⟩
          | _ => simp at ev2
        have S3 : Step [D] μ1 (upd H1 D (.lst [])) μ2 H3 := S2.trans s3.wk
        have hacc3 : H3 D = some (.lst acc) := s3.keep D _ (R2.rs.om D List.mem_cons_self).1 (by simp) hacc
        refine ⟨D :: ω, μ2, δ1, st3, k, st4, R4, ?_, fun μ5 H5 s5 r5 => ?_⟩
        · cases k <;> exact c1
        · have hacc5 : H5 D = some (.lst acc) := s5.keep D _ (R2.rs.om D List.mem_cons_self).1 (by simp) hacc3
          have R5 : Rel X.K (D :: ω) μ5 (wipeD δ own) st4 (L2.wipe σ own) H5 := (R2.step s3 r3).step s5 r5
          cases k with
          | false =>
            simp only [Bool.false_eq_true, if_false] at ev2 ⊢
            exact ⟨rfl, μ5, st4, acc, accD, rest, R5, S3.trans s5.wk, hacc5, (hv.step s3).step s5, ev2, hx⟩
          | true =>
            simp only [if_true] at ev2 ⊢
            obtain ⟨⟨z, st6⟩, z1, ev3⟩ := Option.bind_eq_some_iff.mp ev2
            obtain ⟨⟨zs, st7⟩, z2, z3⟩ := Option.map_eq_some_iff.mp ev3
            obtain ⟨rfl, rfl⟩ := Prod.mk.inj z3
            refine ⟨D :: ω, μ5, δ1, st4, z, st6, R4.step s5 r5, z1, fun μ6 v6 H6 s6 r6 d6 => ?_⟩
            have hacc6 : H6 D = some (.lst acc) := s6.keep D _ (r5.om D List.mem_cons_self).1 (by simp) hacc5
            have hv6 := ((hv.step s3).step s5).step s6
            have hl6 := hv6.length
            obtain ⟨s7, r7⟩ := r6.own (o := .lst (acc ++ [v6])) (p := D) List.mem_cons_self
            refine ⟨acc, hacc6, ?_, rfl, μ6, st6, acc ++ [v6], accD ++ [z], zs, ?_, ?_, upd_same, ?_, z2, ?_⟩
            · have : xs.length = accD.length + (zs.length + 1) := by rw [← hx]; simp
              omega
            · exact ((R5.step s6 r6)).stepW (s7.one List.mem_cons_self) r7
            · exact ((S3.trans s5.wk).trans s6.wk).trans s7
            · exact (hv6.append (.cons d6 .nil)).stepW (s7.one List.mem_cons_self)
            · rw [← hx]; simp
    · cases ev
end
end Ev
set_option Elab.async false
set_option linter.all false
set_option maxRecDepth 100000
set_option maxHeartbeats 4000000
/-! Comprehensions with two clauses; the rules as the text has them. -/
namespace Ev
open PySem PySem.Spec PyProof.Rows L2
section
variable {X : Cx} {C : Cfg}
theorem h_comp2R (m : Bool) (own vs : List Nat) (g : G) (it : It) (g1 : G) (it1 : It) (c e : E) (hg : ∀ i ∈ G.ixs g, i ∈ own) (hg1 : ∀ i ∈ G.ixs g1, i ∈ vs) (σ : L2.St) (H : Hp) (Q : VK) (h : tD X.K (evE C (.comp2 m own vs g it g1 it1 c e)) σ H Q) :
    tLc2 (tI X.K (evI C it)) (tG X.K (evG g) (G.ixs g)) tYes (tI X.K (evI C it1)) (tG X.K (evG g1) (G.ixs g1)) (tT X.K (evE C c)) (tD X.K (evE C e)) own vs σ H Q := by
  obtain ⟨ω, μ, δ, st, d, st', R, e0, q⟩ := h
  simp only [evE] at e0
  obtain ⟨⟨w, st1⟩, e1, e2⟩ := Option.bind_eq_some_iff.mp e0
  obtain ⟨⟨xs, st2⟩, e3, e4⟩ := Option.bind_eq_some_iff.mp e2
  simp only at e3 e4
  have hlim := mkL_len e4
  refine ⟨ω, μ, δ, st, w, st1, R, e1, fun μ1 J H1 s1 r1 wk D hD => ?_⟩
  have wkD := wk.mask (o := .lst []) hD
  have hDw : D ∉ ω := r1.nw hD
  let W : Nat → Nat → Hp → Prop := fun i n H2 => n = w.items.length - i ∧ ∃ μ2 st3 acc accD rest, Rel X.K (D :: ω) μ2 (wipeD δ own) st3 (L2.wipe σ own) H2 ∧ Step [D] μ1 (upd H1 D (.lst [])) μ2 H2 ∧ H2 D = some (.lst acc) ∧ DVs X.K (D :: ω) μ2 H2 accD acc ∧
    evC2 (evG g) (evI C it1) vs (evG g1) (evE C c) (evE C e) w.ok (wipeD δ own) (w.items.drop i) st3 = some (rest, st2) ∧ accD ++ rest = xs
  refine ⟨W, ⟨_, rfl, μ1, st1, [], [], xs, ((R.step s1 r1).mask hD).wipe own, .refl, upd_same, .nil, by rw [List.drop_zero]; exact e3, rfl⟩, ?_⟩
  rintro i n H2 ⟨rfl, μ2, st3, acc, accD, rest, R2, S2, hacc, hv, ev, hx⟩
  have wk2 := wkD.stepW (S2.one List.mem_cons_self)
  cases hi : w.items[i]? with
  | none =>
    rw [drop_none hi] at ev
    simp only [evC2] at ev
    split at ev
    · rename_i hok
      obtain ⟨rfl, rfl⟩ := Prod.mk.inj (Option.some.inj ev)
      refine .inl ⟨wk2.stop R2.rs hok (List.getElem?_eq_none_iff.mp hi), ?_⟩
      rw [List.append_nil] at hx
      subst hx
      exact Fin.grown e4 (fun μ' v H' s r dv => q μ' v H' (s1.trans s) r dv) hD hDw S2 R2.rs hv hacc
    · cases ev
  | some dd =>
    rw [drop_some hi] at ev
    simp only [evC2] at ev
    split at ev
    · rename_i hok
      obtain ⟨δ1, g1e, ev1⟩ := Option.bind_eq_some_iff.mp ev
      obtain ⟨⟨wi, st4⟩, w1e, ev2⟩ := Option.bind_eq_some_iff.mp ev1
      obtain ⟨⟨ys, st5⟩, c1e, ev3⟩ := Option.bind_eq_some_iff.mp ev2
      obtain ⟨⟨zs, st6⟩, n1e, ev4⟩ := Option.map_eq_some_iff.mp ev3
      obtain ⟨rfl, rfl⟩ := Prod.mk.inj ev4
      simp only at c1e n1e
      obtain ⟨jgo, jy⟩ := wk2.go R2.rs hok hi
      have hlt : i < w.items.length := (List.getElem?_eq_some_iff.mp hi).1
      refine .inr ⟨jgo, fun H' => W (i + 1) (w.items.length - (i + 1)) H', fun H' w' => ⟨_, by omega, w'⟩, fun x H3 y => ?_⟩
      obtain ⟨s3, r3, d3⟩ := jy x H3 y
      refine ⟨D :: ω, μ2, wipeD δ own, st3, dd, δ1, R2.step s3 r3, d3, g1e, fun σ4 R4 u4 => ⟨?_, ?_⟩⟩
      · have hl : σ4.length = σ.length := by
          have a1 := R4.len
          have a2 := R2.len
          rw [wipe_length] at a2
          have a3 : δ1.length = (wipeD δ own).length := evG_len g1e
          omega
        exact wipe_wipe hl fun j hj => u4 j fun z => hj (hg j z)
      · show tI X.K (evI C it1) σ4 H3 _
        have S3 : Step [D] μ1 (upd H1 D (.lst [])) μ2 H3 := S2.trans s3.wk
        have hacc3 : H3 D = some (.lst acc) := s3.keep D _ (R2.rs.om D List.mem_cons_self).1 (by simp) hacc
        have hv3 := hv.step s3
        have R3 := R2.step s3 r3
        refine ⟨D :: ω, μ2, δ1, st3, wi, st4, R4, w1e, fun μ5 J1 H5 s5 r5 wk5 => ?_⟩
        have hacc5 : H5 D = some (.lst acc) := s5.keep D _ (R2.rs.om D List.mem_cons_self).1 (by simp) hacc3
        have R5 := R4.step s5 r5
        let W1 : Nat → Nat → Hp → Prop := fun j n H6 => n = wi.items.length - j ∧ ∃ μ6 st7 acc accE rest, Rel X.K (D :: ω) μ6 (wipeD δ1 vs) st7 (L2.wipe σ4 vs) H6 ∧ Step [D] μ5 H5 μ6 H6 ∧ H6 D = some (.lst acc) ∧ DVs X.K (D :: ω) μ6 H6 (accD ++ accE) acc ∧
          evC (evG g1) (evE C c) (evE C e) wi.ok (wipeD δ1 vs) (wi.items.drop j) st7 = some (rest, st5) ∧ accE ++ rest = ys
        refine ⟨W1, ⟨_, rfl, μ5, st4, acc, [], ys, R5.wipe vs, .refl, hacc5, by rw [List.append_nil]; exact hv3.step s5, by rw [List.drop_zero]; exact c1e, rfl⟩, ?_⟩
        rintro j n H6 ⟨rfl, μ6, st7, acc6, accE, rest6, R6, S6, hacc6, hv6, ev6, hx6⟩
        have wk6 := wk5.stepW (S6.one List.mem_cons_self)
        cases hj : wi.items[j]? with
        | none =>
          rw [drop_none hj] at ev6
          simp only [evC] at ev6
          split at ev6
          · rename_i hok6
            obtain ⟨rfl, rfl⟩ := Prod.mk.inj (Option.some.inj ev6)
            refine .inl ⟨wk6.stop R6.rs hok6 (List.getElem?_eq_none_iff.mp hj), rfl, μ6, st7, acc6, accD ++ accE, zs, ?_, (S3.trans s5.wk).trans S6, hacc6, hv6, n1e, ?_⟩
            · exact (R3.stepW s5.wk r5).stepW (S6.one List.mem_cons_self) R6.rs
            · rw [List.append_nil] at hx6
              rw [← hx, hx6, List.append_assoc]
          · cases ev6
        | some de =>
          rw [drop_some hj] at ev6
          simp only [evC] at ev6
          split at ev6
          · rename_i hok6
            obtain ⟨δ7, g7, ev7⟩ := Option.bind_eq_some_iff.mp ev6
            obtain ⟨⟨b, st8⟩, c8, ev8⟩ := Option.bind_eq_some_iff.mp ev7
            simp only at ev8
            obtain ⟨jgo6, jy6⟩ := wk6.go R6.rs hok6 hj
            have hlt6 : j < wi.items.length := (List.getElem?_eq_some_iff.mp hj).1
            refine .inr ⟨jgo6, fun H' => W1 (j + 1) (wi.items.length - (j + 1)) H', fun H' w' => ⟨_, by omega, w'⟩, fun x7 H7 y7 => ?_⟩
            obtain ⟨s7, r7, d7⟩ := jy6 x7 H7 y7
            refine ⟨D :: ω, μ6, wipeD δ1 vs, st7, de, δ7, R6.step s7 r7, d7, g7, fun σ8 R8 u8 => ⟨?_, ?_⟩⟩
            · have hl : σ8.length = σ4.length := by
                have a1 := R8.len
                have a2 := R6.len
                rw [wipe_length] at a2
                have a3 : δ7.length = (wipeD δ1 vs).length := evG_len g7
                omega
              exact wipe_wipe hl fun k hk => u8 k fun z => hk (hg1 k z)
            · obtain ⟨k, rfl⟩ : ∃ k, b = .bl k := by
                cases b with
                | bl k => exact ⟨k, rfl⟩
                | _ => simp at ev8
              have S7 : Step [D] μ5 H5 μ6 H7 := S6.trans s7.wk
              have hacc7 : H7 D = some (.lst acc6) := s7.keep D _ (R6.rs.om D List.mem_cons_self).1 (by simp) hacc6
              refine ⟨D :: ω, μ6, δ7, st7, k, st8, R8, ?_, fun μ9 H9 s9 r9 => ?_⟩
              · cases k <;> exact c8
              · have hacc9 : H9 D = some (.lst acc6) := s9.keep D _ (R6.rs.om D List.mem_cons_self).1 (by simp) hacc7
                have R9 := (R6.step s7 r7).step s9 r9
                cases k with
                | false =>
                  simp only [Bool.false_eq_true, if_false] at ev8 ⊢
                  exact ⟨rfl, μ9, st8, acc6, accE, rest6, R9, S7.trans s9.wk, hacc9, (hv6.step s7).step s9, ev8, hx6⟩
                | true =>
                  simp only [if_true] at ev8 ⊢
                  obtain ⟨⟨z, st10⟩, z1, ev9⟩ := Option.bind_eq_some_iff.mp ev8
                  obtain ⟨⟨us, st11⟩, z2, z3⟩ := Option.map_eq_some_iff.mp ev9
                  obtain ⟨rfl, rfl⟩ := Prod.mk.inj z3
                  refine ⟨D :: ω, μ9, δ7, st8, z, st10, R8.step s9 r9, z1, fun μ10 v10 H10 s10 r10 d10 => ?_⟩
                  have hacc10 : H10 D = some (.lst acc6) := s10.keep D _ (r9.om D List.mem_cons_self).1 (by simp) hacc9
                  have hv10 := ((hv6.step s7).step s9).step s10
                  have hl10 := hv10.length
                  obtain ⟨s11, r11⟩ := r10.own (o := .lst (acc6 ++ [v10])) (p := D) List.mem_cons_self
                  refine ⟨acc6, hacc10, ?_, rfl, μ10, st10, acc6 ++ [v10], accE ++ [z], us, ?_, ?_, upd_same, ?_, z2, ?_⟩
                  · have : xs.length = accD.length + ((accE.length + (us.length + 1)) + zs.length) := by rw [← hx, ← hx6]; simp only [List.length_append, List.length_cons]
                    rw [List.length_append] at hl10
                    omega
                  · exact (R9.step s10 r10).stepW (s11.one List.mem_cons_self) r11
                  · exact ((S7.trans s9.wk).trans s10.wk).trans s11
                  · rw [← List.append_assoc]
                    exact (hv10.append (.cons d10 .nil)).stepW (s11.one List.mem_cons_self)
                  · rw [← hx6]; simp
          · cases ev6
    · cases ev
end
end Ev
set_option Elab.async false
set_option linter.all false
set_option maxRecDepth 100000
set_option maxHeartbeats 4000000
/-! The heads of expressions; calls. -/
namespace Ev
open PySem PySem.Spec PyProof.Rows L2
/-! ### heads -/
def nStar : Expr → Bool
  | .Starred .. => false
  | _ => true
theorem star_cons {e : Expr} {es : List Expr} {env : PySem.Env} (h : nStar e = true) : starEach (e :: es) env = (false, eval e env) :: starEach es env := by
  cases e <;> first | rfl | simp [nStar] at h
theorem star_any {pos : Pos} {env : PySem.Env} : ∀ {es : List Expr}, es.all nStar = true → (backTo pos (starEach es env)).any (·.1) = false
  | [], _ => rfl
  | e :: es, h => by
    rw [List.all_cons, Bool.and_eq_true] at h
    rw [star_cons h.1]
    have := star_any (pos := pos) (env := env) h.2
    unfold backTo at this ⊢
    rw [List.map_cons, List.any_cons, this]
    rfl
theorem star_all {pos : Pos} {env : PySem.Env} : ∀ {es : List Expr}, es.all nStar = true → (backTo pos (starEach es env)).all (fun x => !x.1) = true
  | [], _ => rfl
  | e :: es, h => by
    rw [List.all_cons, Bool.and_eq_true] at h
    rw [star_cons h.1]
    have := star_all (pos := pos) (env := env) h.2
    unfold backTo at this ⊢
    rw [List.map_cons, List.all_cons, this]
    rfl
def nSlice : Expr → Bool
  | .Slice .. => false
  | _ => true
theorem plainIx_of {b : Expr} (h : nSlice b = true) : PlainIx b := fun o i => by
  cases b <;> first | rfl | simp [nSlice] at h
theorem noSl_of {b : Expr} (h : nSlice b = true) : NoSl b := fun o i => by
  cases b <;> first | rfl | simp [nSlice] at h
def nCall : Expr → Bool
  | .Call .. => false
  | _ => true
theorem base_of {o : Expr} {name : Str} {env : PySem.Env} {w : Sem Value} (h : nCall o = true) : attributeBase o name env w = w := by
  cases o <;> first | rfl | simp [nCall] at h
def nTest : Expr → Bool
  | .BoolOp .. => false
  | .Compare .. => false
  | .UnaryOp .Not _ _ => false
  | .IfExp .. => false
  | .NamedExpr .. => false
  | _ => true
def nSet : Expr → Bool
  | .Set .. => false
  | _ => true
theorem folded_of {e : Expr} {env : PySem.Env} {x : Value} (h : nSet e = true) : foldedSetIterable e env x = pure x := by
  cases e <;> first | rfl | simp [nSet] at h
theorem behind_of {e : Expr} {op : CmpOp} (h : nSet e = true) : behindInMarks op e = false := by
  cases e <;> first | rfl | simp [nSet] at h
theorem last_of {e b : Expr} {o o' : CmpOp} (h : nSet e = true) : lastMarks [o, o'] [b, e] = false := by
  show lastMarks [o'] [e] = false
  exact behind_of h
def nComp : Expr → Bool
  | .ListComp .. => false
  | .SetComp .. => false
  | .DictComp .. => false
  | _ => true
theorem swaps_of {e : Expr} {t : Option Expr} {l : Nat} {env : PySem.Env} (h : nComp e = true) : swapsWith e t l env = pure false := by
  cases e <;> first | rfl | simp [nComp] at h
theorem test_of {X : Cx} {e : Expr} (h : nTest e = true) : ∀ whole, isTrue e X.env whole = (do let v ← whole; standAt e.pos; holding [v] (truthy v)) := by
  intro whole
  cases e <;> first | rfl | simp [nTest] at h | skip
  case UnaryOp op a p => cases op <;> first | rfl | simp [nTest] at h
/-! ### calls of defs -/
def CX0 : CXT := fun _ _ _ _ _ _ => False
theorem passes0 {X : Cx} {E : XK} : Passes CX0 X E := fun _ _ _ _ _ _ _ h => h.elim
def spD (K : PySem.W.Frag) (n : Nat) (c : List D → Sto → Option (D × Sto)) : Sp := fun vs H Q _ => vs.length = n ∧ ∃ ω μ st ds d st', DVs K ω μ H ds vs ∧ RS K ω μ st H ∧ c ds st = some (d, st') ∧ Fin K ω μ H d st' Q
section
variable {X : Cx} {C : Cfg} {x : Str} {p pos : Pos} {k f n : Nat} {a : Addr} {fd : FuncData} {ps : List Str} {e : Expr} {es : List Expr} {ies : Es}
theorem h_callR (hn : ies.len = n) (σ : L2.St) (H : Hp) (Q : VK) (h : tD X.K (evE C (.call f ies)) σ H Q) : tCall (spD X.K n (C.call f)) [] (fun _ _ _ => False) (tA X.K (evEs C ies)) σ H Q := by
  obtain ⟨ω, μ, δ, st, d, st', R, e0, q⟩ := h
  simp only [evE] at e0
  obtain ⟨⟨xs, st1⟩, e1, e2⟩ := Option.bind_eq_some_iff.mp e0
  refine ⟨ω, μ, δ, st, xs, st1, R, e1, fun μ1 vs H1 s1 r1 d1 => ⟨?_, ω, μ1, st1, xs, d, st', ?_, r1, e2, fun μ2 v2 H2 s2 r2 d2 => q μ2 v2 H2 (s1.trans s2) r2 d2⟩⟩
  · rw [List.append_nil, ← d1.length, evEs_len e1, hn]
  · rw [List.append_nil]; exact d1
theorem h_call (F : FnOk X.prog X.w X.K X.mg X.base CX0 k a fd ps (spD X.K n (C.call f))) (hr : Room k X.A) (hg : Gl X x) (hm : X.mg x = some (.ref a)) (hk : PySem.W.keepIn X.K (.ref a) = true) (hb : Binds X.K fd ps [])
    (ha : PA X (e :: es) (tA X.K (evEs C ies))) (hn : ies.len = n) (hs : (e :: es).all nStar = true) (hd : (x == ("__debug__" : Str)) = false) : PE X (.Call (.Name x p) (e :: es) [] pos) (tD X.K (evE C (.call f ies))) := by
  rw [List.all_cons, Bool.and_eq_true] at hs
  exact (pe_call F hr hg hm hk hb .nil passes0 ha hd (star_cons hs.1) (star_any hs.2)).wk fun σ H Q h => h_callR hn σ H Q h
/-! keywords only -/
theorem k_nil : PK X [] (tA X.K (evEs C .nil)) := ⟨fun pos pins s σ H Q I h => pk_nil.run pos pins s σ H Q I (by
  obtain ⟨ω, μ, δ, st, d, st', R, e, q⟩ := h
  simp only [evEs, Option.some.injEq, Prod.mk.injEq] at e
  obtain ⟨rfl, rfl⟩ := e
  exact q μ [] H .refl R.rs .nil)⟩
theorem k_cons {nm : Option Str} {kpos : Pos} {ia : E} {kws : List Keyword} (ha : PE X e (tD X.K (evE C ia))) (hr : PK X kws (tA X.K (evEs C ies))) : PK X (⟨nm, e, kpos⟩ :: kws) (tA X.K (evEs C (.cons ia ies))) :=
  ⟨fun pos pins s σ H Q I h => (pk_cons ha hr).run pos pins s σ H Q I (by
    obtain ⟨ω, μ, δ, st, d, st', R, e, q⟩ := h
    simp only [evEs] at e
    obtain ⟨⟨x, st1⟩, e1, e2⟩ := Option.bind_eq_some_iff.mp e
    obtain ⟨⟨xs, st2⟩, e3, e4⟩ := Option.map_eq_some_iff.mp e2
    obtain ⟨rfl, rfl⟩ := Prod.mk.inj e4
    exact ⟨ω, μ, δ, st, x, st1, R, e1, fun μ1 v1 H1 s1 r1 d1 => ⟨ω, μ1, δ, st1, xs, _, R.step s1 r1, e3, fun μ2 vs H2 s2 r2 d2 => q μ2 _ H2 (s1.trans s2) r2 (.cons (d1.step s2) d2)⟩⟩)⟩
theorem DVs.pick {K : PySem.W.Frag} {ω μ : List Addr} {H : Hp} {ds : List D} {vs : List V} (h : DVs K ω μ H ds vs) : ∀ (js : List Nat), DVs K ω μ H (js.filterMap (ds[·]?)) (js.filterMap (vs[·]?))
  | [] => .nil
  | j :: js => by
    have ih := h.pick js
    cases e : ds[j]? with
    | none =>
      have e2 : vs[j]? = none := List.getElem?_eq_none (by rw [← h.length]; exact List.getElem?_eq_none_iff.mp e)
      rw [List.filterMap_cons_none e, List.filterMap_cons_none e2]
      exact ih
    | some d =>
      obtain ⟨v, e2, dv⟩ := h.get e
      rw [List.filterMap_cons_some e, List.filterMap_cons_some e2]
      exact .cons dv ih
theorem Vals.pick {vs : List V} {us : List Value} (h : Vals vs us) : ∀ (js : List Nat), Vals (js.filterMap (vs[·]?)) (js.filterMap (us[·]?))
  | [] => .nil
  | j :: js => by
    have ih := Vals.pick h js
    cases e : vs[j]? with
    | none =>
      rw [List.filterMap_cons_none e, List.filterMap_cons_none (Vals.none_of h e)]
      exact ih
    | some d =>
      obtain ⟨v, e2, dv⟩ := Vals.get h e
      rw [List.filterMap_cons_some e, List.filterMap_cons_some e2]
      exact .cons dv ih
/-- how a call by keywords alone binds -/
def KB0 (K : PySem.W.Frag) (fd : FuncData) (ps ks : List Str) (js : List Nat) : Prop := ∀ (s : Shared) (ws : List Value), K.In s.heap → ws.length = ps.length → BindsTo s fd ⟨[], ks.zip ws⟩ (ps.zip (js.filterMap (ws[·]?)))
theorem h_callK {kws : List Keyword} {ks : List Str} {js : List Nat} (F : FnOk X.prog X.w X.K X.mg X.base CX0 k a fd ps (spD X.K n (C.call f))) (hr : Room k X.A) (hg : Gl X x) (hm : X.mg x = some (.ref a)) (hk : PySem.W.keepIn X.K (.ref a) = true) (hb : KB0 X.K fd ps ks js)
    (ha : PK X kws (tA X.K (evEs C ies))) (hn : ies.len = n) (hps : ps.length = n) (hj : ∀ j ∈ js, j < n) (hjl : js.length = n) (hks : kws.map (·.arg) = ks.map some) (hd : (x == ("__debug__" : Str)) = false) : PE X (.Call (.Name x p) [] kws pos) (tD X.K (evE C (.callK f js ies))) := by
  have names : ∀ (l : List Keyword) (m : List Str), l.map (·.arg) = m.map some → (backToKw pos (keywordEach l X.env)).all (·.1.isSome) = true ∧ (backToKw pos (keywordEach l X.env)).filterMap (·.1) = m ∧ (backToKw pos (keywordEach l X.env)).any (·.1.isNone) = false := by
    intro l
    induction l with
    | nil =>
      intro m h
      have : m = [] := by cases m with | nil => rfl | cons _ _ => cases h
      subst this
      exact ⟨rfl, rfl, rfl⟩
    | cons q l ih =>
      intro m h
      cases m with
      | nil => cases h
      | cons y m =>
        rw [List.map_cons, List.map_cons] at h
        obtain ⟨h1, h2⟩ := List.cons.inj h
        obtain ⟨i1, i2, i3⟩ := ih m h2
        obtain ⟨qn, qv, qp⟩ := q
        have h1 : qn = some y := h1
        subst h1
        unfold backToKw at i1 i2 i3 ⊢
        unfold keywordEach
        refine ⟨?_, ?_, ?_⟩
        · rw [List.map_cons, List.all_cons, i1]; rfl
        · rw [List.map_cons]
          show y :: List.filterMap _ _ = y :: m
          rw [i2]
        · rw [List.map_cons, List.any_cons, i3]; rfl
  obtain ⟨n1, n2, n3⟩ := names kws ks hks
  refine ⟨fun pins s σ H Q I h => ?_⟩
  refine wpAny_Call_Name_kw (ld_glob I hg hm ?_ hd)
  obtain ⟨ω, μ, δ, st, d, st', R, e0, q⟩ := h
  simp only [evE] at e0
  obtain ⟨⟨xs, st1⟩, e1, e2⟩ := Option.bind_eq_some_iff.mp e0
  have hxl : xs.length = n := by rw [evEs_len e1, hn]
  refine PySem.W.callWith_KW0 (h₀ := X.base) I.ok.mod.kin hk n1 (thn (ha.run pos pins s σ H (fun zs H2 => ∃ μ2 H', zs.length = n ∧ H' = H2 ∧ Step [] μ H μ2 H2 ∧ RS X.K ω μ2 st1 H2 ∧ DVs X.K ω μ2 H2 xs zs) I ⟨ω, μ, δ, st, xs, st1, R, e1, fun μ1 vs H1 s1 r1 d1 => ⟨μ1, H1, by rw [← d1.length, hxl], rfl, s1, r1, d1⟩⟩) fun ws s2 ⟨zs, H2, I2, rz, μ2, _, hl, _, s1, r1, d1⟩ => ⟨I2.kIn, ?_⟩) (by rw [n3]; rfl)
  rw [n2]
  have hwl : ws.length = n := by rw [← rz.length, hl]
  have hb2 := hb s2 ws I2.kIn (by rw [hwl, hps])
  have rp := Vals.pick rz js
  have hsp : spD X.K n (C.call f) (js.filterMap (zs[·]?)) H2 Q (fun _ _ _ => False) := by
    refine ⟨?_, ω, μ2, st1, js.filterMap (xs[·]?), d, st', d1.pick js, r1, e2, fun μ3 v3 H3 s3 r3 d3 => q μ3 v3 H3 (s1.trans s3) r3 d3⟩
    have : ∀ (l : List Nat), (∀ j ∈ l, j < n) → (l.filterMap (zs[·]?)).length = l.length := by
      intro l
      induction l with
      | nil => intro _; rfl
      | cons j l ih =>
        intro hh
        have hj2 : j < zs.length := by rw [hl]; exact hh j List.mem_cons_self
        rw [List.filterMap_cons_some (List.getElem?_eq_getElem hj2), List.length_cons, List.length_cons, ih fun i hi => hh i (List.mem_cons_of_mem _ hi)]
    rw [this js hj, hjl]
  refine wpAny_call (codeAny_mono (F.run X.A X.stack s2 H2 ⟨[], ks.zip ws⟩ _ _ Q _ hr I2.env0 hb2 rp hsp) fun r s' hq => ?_)
  cases r with
  | error e => exact hq.elim
  | ok fl =>
    cases fl with
    | ret u => exact I2.after hq
    | next => exact False.elim hq
    | brk => exact False.elim hq
    | cont => exact False.elim hq
end
end Ev
set_option Elab.async false
set_option linter.all false
set_option maxRecDepth 100000
set_option maxHeartbeats 4000000
/-! Calls of built-ins, subscripts, displays, methods: the rules as the text has them. -/
namespace Ev
open PySem PySem.Spec PyProof.Rows L2
section
variable {X : Cx} {C : Cfg} {a b lo hi : Expr} {ia ib il ih : E} {p pos p2 p3 : Pos}
theorem one_tA {r : List V → Hp → VK → Prop} {te : TE} {σ : L2.St} {H : Hp} {Q : VK} (h : te σ H fun x H1 => r [x] H1 Q) : tCB r (tCons te tNil) σ H Q := h
theorem nmB_ne (o : B1) : nmB o ≠ ("__name__" : Str) := by cases o <;> decide +kernel
theorem nmB_db (o : B1) : (nmB o == ("__debug__" : Str)) = false := by cases o <;> decide +kernel
theorem nm2_ne (o : B2) : nm2 o ≠ ("__name__" : Str) := by cases o <;> decide +kernel
theorem nm2_db (o : B2) : (nm2 o == ("__debug__" : Str)) = false := by cases o <;> decide +kernel
theorem h_b1 (hc : X.calm = true) (m : Bool) (o : B1) (hg : Gl X (nmB o)) (hm : X.mg (nmB o) = none) (ha : PE X a (tD X.K (evE C ia))) (hs : nStar a = true) : PE X (.Call (.Name (nmB o) p) [a] [] pos) (tD X.K (evE C (.b1 m o ia))) := by
  have w : ∀ σ H Q, tD X.K (evE C (.b1 m o ia)) σ H Q → tCB (r1 X.K m o) (tCons (tD X.K (evE C ia)) tNil) σ H Q := fun σ H Q ⟨ω, μ, δ, st, d, st', R, e0, q⟩ => by
    simp only [evE] at e0
    obtain ⟨⟨x, st1⟩, e1, e2⟩ := Option.bind_eq_some_iff.mp e0
    exact ⟨ω, μ, δ, st, x, st1, R, e1, fun μ1 v1 H1 s1 r1 d1 => ⟨ω, μ1, st1, x, v1, d, st', rfl, r1, d1, e2, fun μ2 v2 H2 s2 r2 d2 => q μ2 v2 H2 (s1.trans s2) r2 d2⟩⟩
  have hb := vB_boot o
  have hf := okF hc m o
  have hA := pa_cons ha pa_nil (star_cons hs (es := []) (env := X.env))
  have e1 : starEach [a] X.env = (false, eval a X.env) :: starEach [] X.env := star_cons hs
  have e2 : (backTo pos (starEach [] X.env)).any (·.1) = false := rfl
  cases o
  case int => exact (pe_callTy hf hg hm hb hA (nmB_ne _) (nmB_db _) e1 e2).wk w
  case tuple => exact (pe_callTy hf hg hm hb hA (nmB_ne _) (nmB_db _) e1 e2).wk w
  case list => exact (pe_callTy hf hg hm hb hA (nmB_ne _) (nmB_db _) e1 e2).wk w
  all_goals exact (pe_callB hf hg hm hb hA (nmB_ne _) (nmB_db _) e1 e2).wk w
theorem h_b2 (hc : X.calm = true) (o : B2) (hg : Gl X (nm2 o)) (hm : X.mg (nm2 o) = none) (ha : PE X a (tD X.K (evE C ia))) (hb : PE X b (tD X.K (evE C ib))) (hs : nStar a = true) (hs2 : nStar b = true) : PE X (.Call (.Name (nm2 o) p) [a, b] [] pos) (tD X.K (evE C (.b2 o ia ib))) := by
  have w : ∀ σ H Q, tD X.K (evE C (.b2 o ia ib)) σ H Q → tCB (r2 X.K o) (tCons (tD X.K (evE C ia)) (tCons (tD X.K (evE C ib)) tNil)) σ H Q := fun σ H Q ⟨ω, μ, δ, st, d, st', R, e0, q⟩ => by
    simp only [evE] at e0
    obtain ⟨⟨x, st1⟩, e1, e2⟩ := Option.bind_eq_some_iff.mp e0
    obtain ⟨⟨y, st2⟩, e3, e4⟩ := Option.bind_eq_some_iff.mp e2
    obtain ⟨z, e5, e6⟩ := Option.map_eq_some_iff.mp e4
    obtain ⟨rfl, rfl⟩ := Prod.mk.inj e6
    exact ⟨ω, μ, δ, st, x, st1, R, e1, fun μ1 v1 H1 s1 r1 d1 => ⟨ω, μ1, δ, st1, y, st2, R.step s1 r1, e3, fun μ2 v2 H2 s2 r2 d2 => ⟨ω, μ2, st2, x, y, v1, v2, z, rfl, r2, d1.step s2, d2, e5, fun μ3 v3 H3 s3 r3 d3 => q μ3 v3 H3 ((s1.trans s2).trans s3) r3 d3⟩⟩⟩
  have hbt := v2_boot o
  have hf := ok2 hc o
  have hA := pa_cons ha (pa_cons hb pa_nil (star_cons hs2 (es := []) (env := X.env))) (star_cons hs (es := [b]) (env := X.env))
  have e1 : starEach [a, b] X.env = (false, eval a X.env) :: starEach [b] X.env := star_cons hs
  have e2 : (backTo pos (starEach [b] X.env)).any (·.1) = false := star_any (by simp [hs2])
  cases o <;> exact (pe_callB hf hg hm hbt hA (nm2_ne _) (nm2_db _) e1 e2).wk w
theorem isi_db : (("isinstance" : Str) == ("__debug__" : Str)) = false := by decide +kernel
theorem ty_ne (t : Ty) : Str.ofString (tyN t) ≠ ("__name__" : Str) := by cases t <;> decide +kernel
theorem ty_db (t : Ty) : (Str.ofString (tyN t) == ("__debug__" : Str)) = false := by cases t <;> decide +kernel
theorem h_isi (t : Ty) (hg : Gl X "isinstance") (hm : X.mg "isinstance" = none) (hg2 : Gl X (Str.ofString (tyN t))) (hm2 : X.mg (Str.ofString (tyN t)) = none) (ha : PE X a (tD X.K (evE C ia))) (hs : nStar a = true) :
    PE X (.Call (.Name "isinstance" p) [a, .Name (Str.ofString (tyN t)) p2] [] pos) (tD X.K (evE C (.isi ia t))) := by
  have hT : PE X (.Name (Str.ofString (tyN t)) p2) (tC (.ty (tyN t))) := pe_bltn hg2 hm2 (ty_boot t) rfl (ty_ne t) (ty_db t)
  refine (pe_callB (okI t) hg hm (by decide +kernel) (pa_cons ha (pa_cons hT pa_nil rfl) (star_cons hs)) (by decide +kernel) isi_db (star_cons hs) rfl).wk fun σ H Q ⟨ω, μ, δ, st, d, st', R, e0, q⟩ => ?_
  simp only [evE] at e0
  obtain ⟨⟨x, st1⟩, e1, e2⟩ := Option.map_eq_some_iff.mp e0
  obtain ⟨rfl, rfl⟩ := Prod.mk.inj e2
  exact ⟨ω, μ, δ, st, x, st1, R, e1, fun μ1 v1 H1 s1 r1 d1 => ⟨ω, μ1, st1, x, v1, rfl, r1, d1, q μ1 _ H1 s1 r1 (.bl _)⟩⟩
theorem rg_dv {K : PySem.W.Frag} {ω μ : List Addr} {H : Hp} {n : Int} : DVs K ω μ H (rngD n.toNat) (rgV 0 n) := by
  have e1 : rngD n.toNat = ((List.range n.toNat).map fun (i : Nat) => (i : Int)).map D.int := by simp [rngD]
  have e2 : rgV 0 n = ((List.range n.toNat).map fun (i : Nat) => (i : Int)).map V.int := by simp [rgV]
  rw [e1, e2]
  exact .of_ints _
theorem h_trng (hc : X.calm = true) (m t : Bool) (hg : Gl X "range") (hm : X.mg "range" = none) (hg2 : Gl X (if t then "tuple" else "list")) (hm2 : X.mg (if t then "tuple" else "list") = none) (ha : PE X a (tD X.K (evE C ia))) (hs : nStar a = true) :
    PE X (.Call (.Name (if t then "tuple" else "list") p) [.Call (.Name "range" p2) [a] [] p3] [] pos) (tD X.K (evE C (.trng m t ia))) := by
  have hr := prg_1 (p := p2) (pos := p3) hg hm ha (star_cons hs)
  have lim : LIM + LIM ≤ sizeLine := by rw [sizeLine_eq]; decide
  have low : ∀ {i : Int}, 0 ≤ i ∧ i ≤ (LIM : Int) → RgOk 0 i ∧ (rngD i.toNat).length ≤ sizeLine := fun {i} h => by
    refine ⟨?_, ?_⟩
    · unfold LIM at h
      exact ⟨by omega, by omega, by omega, by omega, by omega⟩
    · simp only [rngD, List.length_map, List.length_range]
      omega
  cases t with
  | true =>
    refine (pe_tupRg hc hg2 hm2 hr rfl).wk fun σ H Q ⟨ω, μ, δ, st, d, st', R, e0, q⟩ => ?_
    simp only [evE] at e0
    obtain ⟨⟨x, st1⟩, e1, e2⟩ := Option.bind_eq_some_iff.mp e0
    refine ⟨ω, μ, δ, st, x, st1, R, e1, fun μ1 v1 H1 s1 r1 d1 => ?_⟩
    cases d1 <;> simp only [reduceCtorEq] at e2
    split at e2
    · rename_i hi
      simp only [if_true] at e2
      obtain ⟨rfl, rfl⟩ := Prod.mk.inj (Option.some.inj e2)
      exact ⟨_, rfl, (low hi).1, fun ad hn => Fin.tup (K := X.K) (ω := ω) (μ := μ1) (fun μ2 v2 H2 s2 r2 d2 => q μ2 v2 H2 (s1.trans s2) r2 d2) r1 (low hi).2 rg_dv hn⟩
    · cases e2
  | false =>
    refine (pe_listRg hc hg2 hm2 hr rfl).wk fun σ H Q ⟨ω, μ, δ, st, d, st', R, e0, q⟩ => ?_
    simp only [evE] at e0
    obtain ⟨⟨x, st1⟩, e1, e2⟩ := Option.bind_eq_some_iff.mp e0
    refine ⟨ω, μ, δ, st, x, st1, R, e1, fun μ1 v1 H1 s1 r1 d1 => ?_⟩
    cases d1 <;> simp only [reduceCtorEq] at e2
    split at e2
    · rename_i hi
      simp only [Bool.false_eq_true, if_false] at e2
      exact ⟨_, rfl, (low hi).1, fun ad hn => Fin.mk (K := X.K) (ω := ω) (μ := μ1) e2 (fun μ2 v2 H2 s2 r2 d2 => q μ2 v2 H2 (s1.trans s2) r2 d2) r1 rg_dv hn⟩
    · cases e2
/-! ### subscripts -/
theorem h_ix (ha : PE X a (tD X.K (evE C ia))) (hb : PE X b (tD X.K (evE C ib))) (hs : nSlice b = true) : PE X (.Subscript a b pos) (tD X.K (evE C (.ix ia ib))) :=
  (pe_ix okX ha hb (plainIx_of hs)).wk fun σ H Q ⟨ω, μ, δ, st, d, st', R, e, q⟩ => by
    simp only [evE] at e
    obtain ⟨⟨x, st1⟩, e1, e2⟩ := Option.bind_eq_some_iff.mp e
    obtain ⟨⟨y, st2⟩, e3, e4⟩ := Option.bind_eq_some_iff.mp e2
    obtain ⟨z, e5, e6⟩ := Option.map_eq_some_iff.mp e4
    obtain ⟨rfl, rfl⟩ := Prod.mk.inj e6
    exact ⟨ω, μ, δ, st, x, st1, R, e1, fun μ1 v1 H1 s1 r1 d1 => ⟨ω, μ1, δ, st1, y, st2, R.step s1 r1, e3, fun μ2 v2 H2 s2 r2 d2 => ⟨ω, μ2, st2, x, y, z, r2, d1.step s2, d2, e5, fun μ3 v3 H3 s3 r3 d3 => q μ3 v3 H3 ((s1.trans s2).trans s3) r3 d3⟩⟩⟩
/-- a dict of the module -/
theorem h_gdx {x : Str} {ad : Addr} {kvs : List (Str × D)} (hg : Gl X x) (hm : X.mg x = some (.ref ad)) (hd : (x == ("__debug__" : Str)) = false) (hC : C.gd x = some kvs) (hk : ∀ s d, kvs.lookup s = some d → ∃ v, KDct X.K X.w ad s v ∧ ∀ ω μ H, DV X.K ω μ H d v)
    (hb : PE X b (tD X.K (evE C ib))) (hs : nSlice b = true) : PE X (.Subscript (.Name x p) b pos) (tD X.K (evE C (.gdx x ib))) :=
  (pe_ix ix_kdict (pe_glob (v := .ref ad) hg hm rfl hd) hb (plainIx_of hs)).wk fun σ H Q ⟨ω, μ, δ, st, d, st', R, e, q⟩ => by
    simp only [evE, hC] at e
    obtain ⟨⟨y, st1⟩, e1, e2⟩ := Option.bind_eq_some_iff.mp e
    refine ⟨ω, μ, δ, st, y, st1, R, e1, fun μ1 v1 H1 s1 r1 d1 => ?_⟩
    cases d1 <;> simp only [reduceCtorEq] at e2
    rename_i s
    obtain ⟨z, e3, e4⟩ := Option.map_eq_some_iff.mp e2
    obtain ⟨rfl, rfl⟩ := Prod.mk.inj e4
    obtain ⟨v, k1, k2⟩ := hk s z (by simpa using e3)
    exact ⟨_, _, v, rfl, rfl, k1, q μ1 _ H1 s1 r1 (k2 _ _ _)⟩
/-- a part of a slice: absent, or an int -/
def tO (K : PySem.W.Frag) (e : E) (m : MD) : L2.TO := fun σ H Q => ∃ ω μ δ st d st' o, Rel K ω μ δ st σ H ∧ m δ st = some (d, st') ∧ oint e.isSkip d = some o ∧ ∀ μ' H', Step [] μ H μ' H' → RS K ω μ' st' H' → Q o H'
theorem _root_.L2.PO.wk {X : Cx} {e : Option Expr} {t t' : L2.TO} (h : PO X e t) (w : ∀ σ H Q, t' σ H Q → t σ H Q) : PO X e t' := ⟨fun pins s σ H Q I q => h.run pins s σ H Q I (w _ _ _ q)⟩
theorem o_none : PO X none (tO X.K .skip (evE C .skip)) := po_none.wk fun σ H Q ⟨ω, μ, δ, st, d, st', o, R, e, e2, q⟩ => by
  simp only [evE, Option.some.injEq, Prod.mk.injEq] at e
  obtain ⟨rfl, rfl⟩ := e
  simp only [E.isSkip, oint, if_true, Option.some.injEq] at e2
  subst e2
  exact q μ H .refl R.rs
theorem o_some (ha : PE X a (tD X.K (evE C ia))) (hs : ia.isSkip = false) : PO X (some a) (tO X.K ia (evE C ia)) := (po_some ha).wk fun σ H Q ⟨ω, μ, δ, st, d, st', o, R, e, e2, q⟩ => by
  simp only [hs, oint, Bool.false_eq_true, if_false] at e2
  refine ⟨ω, μ, δ, st, d, st', R, e, fun μ1 v1 H1 s1 r1 d1 => ?_⟩
  cases d1 <;> simp only [reduceCtorEq, Option.some.injEq] at e2
  subst e2
  exact ⟨_, rfl, q μ1 H1 s1 r1⟩
theorem h_sl {m : Bool} {olo ohi : Option Expr} (ha : PE X a (tD X.K (evE C ia))) (hl : PO X olo (tO X.K il (evE C il))) (hh : PO X ohi (tO X.K ih (evE C ih))) : PE X (.Subscript a (.Slice olo ohi none p2) pos) (tD X.K (evE C (.sl m ia il ih))) :=
  (pe_slice (okS m) ha hl hh).wk fun σ H Q ⟨ω, μ, δ, st, d, st', R, e, q⟩ => by
    simp only [evE] at e
    obtain ⟨⟨x, st1⟩, e1, e2⟩ := Option.bind_eq_some_iff.mp e
    obtain ⟨⟨y, st2⟩, e3, e4⟩ := Option.bind_eq_some_iff.mp e2
    obtain ⟨⟨z, st3⟩, e5, e6⟩ := Option.bind_eq_some_iff.mp e4
    obtain ⟨l, e7, e8⟩ := Option.bind_eq_some_iff.mp e6
    obtain ⟨u, e9, e10⟩ := Option.bind_eq_some_iff.mp e8
    exact ⟨ω, μ, δ, st, x, st1, R, e1, fun μ1 v1 H1 s1 r1 d1 => ⟨ω, μ1, δ, st1, y, st2, l, R.step s1 r1, e3, e7, fun μ2 H2 s2 r2 => ⟨ω, μ2, δ, st2, z, st3, u, (R.step s1 r1).step s2 r2, e5, e9, fun μ3 H3 s3 r3 => ⟨ω, μ3, st3, x, d, st', r3, (d1.step s2).step s3, e10, fun μ4 v4 H4 s4 r4 d4 => q μ4 v4 H4 (((s1.trans s2).trans s3).trans s4) r4 d4⟩⟩⟩⟩
theorem h_rev {p4 : Pos} {j : Nat} {m : Bool} (ha : PE X a (tD X.K (evE C ia))) : PE X (.Subscript a (.Slice none none (some (.UnaryOp .USub (.Constant (.int 1) j p3) p4)) p2) pos) (tD X.K (evE C (.rev m ia))) :=
  (pe_rev ha).wk fun σ H Q ⟨ω, μ, δ, st, d, st', R, e, q⟩ => by
    simp only [evE] at e
    obtain ⟨⟨x, st1⟩, e1, e2⟩ := Option.bind_eq_some_iff.mp e
    obtain ⟨xs, e3, e4⟩ := Option.bind_eq_some_iff.mp e2
    refine ⟨ω, μ, δ, st, x, st1, R, e1, fun μ1 v1 H1 s1 r1 d1 => ?_⟩
    obtain ⟨ad, vs, rfl, h1, h2, h3⟩ := lst_of r1 d1 e3
    exact ⟨ad, vs, rfl, h1, fun q2 hn => Fin.mk (K := X.K) (ω := ω) (μ := μ1) e4 (fun μ2 v2 H2 s2 r2 d2 => q μ2 v2 H2 (s1.trans s2) r2 d2) r1 h2.reverse hn⟩
/-! ### methods of lists -/
def nmM : Mt → Str
  | .append => "append" | .extend => "extend" | .insert => "insert" | .pop => "pop" | .popAt => "pop" | .index => "index" | .count => "count"
theorem ty_lst {K : PySem.W.Frag} {ω μ : List Addr} {H : Hp} {st : Sto} {n : Nat} {v : V} {xs : List D} (r : RS K ω μ st H) (h : DV K ω μ H (.loc n) v) (e : st[n]? = some (.lst xs)) : tyV K "list" v H := by
  cases h with
  | @loc a _ hm =>
    obtain ⟨b, h1, vs, h2, h3, h4⟩ := r.ob n _ e
    rw [hm] at h1; cases h1
    exact .inl ⟨rfl, vs, .of h2⟩
theorem isLstS_at {st : Sto} {x : D} (e : isLstS st x = true) : ∃ n xs, x = .loc n ∧ st[n]? = some (.lst xs) := by
  unfold isLstS at e
  split at e
  · split at e
    · exact ⟨_, _, rfl, by assumption⟩
    · cases e
  · cases e
theorem h_pop {apos : Pos} (ha : PE X a (tD X.K (evE C ia))) (hb : nCall a = true) (hl : (apos.endLine == pos.line) = true) : PE X (.Call (.Attribute a "pop" apos) [] [] pos) (tD X.K (evE C (.meth .pop ia .nil))) :=
  (pe_bm0 F.plainAttrs_list F.slot_list_pop F.type_list_pop (okM .pop) ha (base_of hb) hl).wk fun σ H Q ⟨ω, μ, δ, st, d, st', R, e, q⟩ => by
    simp only [evE, evEs, Option.bind_some] at e
    obtain ⟨⟨x, st1⟩, e1, e2⟩ := Option.bind_eq_some_iff.mp e
    simp only at e2
    split at e2
    · rename_i hi
      refine ⟨ω, μ, δ, st, x, st1, R, e1, fun μ1 v1 H1 s1 r1 d1 => ?_⟩
      obtain ⟨n, xs, rfl, hn⟩ := isLstS_at hi
      exact ⟨ty_lst r1 d1 hn, ω, μ1, st1, _, [], d, st', r1, d1, .nil, e2, fun μ2 v2 H2 s2 r2 d2 => q μ2 v2 H2 (s1.trans s2) r2 d2⟩
    · cases e2
theorem methR {o : Mt} {ies : Es} (σ : L2.St) (H : Hp) (Q : VK) (h : tD X.K (evE C (.meth o ia ies)) σ H Q) : tBM X.K "list" (rM X.K o) (tD X.K (evE C ia)) (tA X.K (evEs C ies)) σ H Q := by
  obtain ⟨ω, μ, δ, st, d, st', R, e, q⟩ := h
  simp only [evE] at e
  obtain ⟨⟨x, st1⟩, e1, e2⟩ := Option.bind_eq_some_iff.mp e
  simp only at e2
  split at e2
  · rename_i hi
    obtain ⟨⟨xs, st2⟩, e3, e4⟩ := Option.bind_eq_some_iff.mp e2
    refine ⟨ω, μ, δ, st, x, st1, R, e1, fun μ1 v1 H1 s1 r1 d1 => ?_⟩
    obtain ⟨n, ys, rfl, hn⟩ := isLstS_at hi
    exact ⟨ty_lst r1 d1 hn, ω, μ1, δ, st1, xs, st2, R.step s1 r1, e3, fun μ2 vs H2 s2 r2 d2 => ⟨ω, μ2, st2, _, xs, d, st', r2, d1.step s2, d2, e4, fun μ3 v3 H3 s3 r3 d3 => q μ3 v3 H3 ((s1.trans s2).trans s3) r3 d3⟩⟩
  · cases e2
theorem few_of {pos : Pos} {env : PySem.Env} {e : Expr} {es : List Expr} (hs : (e :: es).all nStar = true) (hl : es.length < 20) :
    ((backTo pos (starEach (e :: es) env)).all (fun x => !x.1) && (backToKw pos (keywordEach [] env)).all (fun x => x.1.isSome)
      && decide ((e :: es).length + ([] : List Keyword).length + (if ([] : List Keyword).isEmpty then 0 else 1) < 30)) = true := by
  rw [star_all hs]
  have h1 : (backToKw pos (keywordEach [] env)).all (fun x => x.1.isSome) = true := rfl
  have h2 : (if ([] : List Keyword).isEmpty then 0 else 1) = 0 := rfl
  rw [h1, h2]
  simp only [Bool.true_and, decide_eq_true_eq, List.length_cons, List.length_nil]
  omega
def mtArgs : Mt → Bool
  | .append | .extend | .insert => true
  | _ => false
theorem h_meth {o : Mt} {apos : Pos} {e : Expr} {es : List Expr} {ies : Es} (ho : mtArgs o = true) (ha : PE X a (tD X.K (evE C ia))) (hes : PA X (e :: es) (tA X.K (evEs C ies))) (hb : nCall a = true) (hs : (e :: es).all nStar = true) (hn : es.length < 20) (hl : (apos.endLine == pos.line) = true) :
    PE X (.Call (.Attribute a (nmM o) apos) (e :: es) [] pos) (tD X.K (evE C (.meth o ia ies))) := by
  have hs2 := hs
  rw [List.all_cons, Bool.and_eq_true] at hs2
  cases o with
  | append => exact (pe_bm F.plainAttrs_list F.slot_list_append F.type_list_append (okM .append) ha hes (base_of hb) (few_of hs hn) hl (star_cons hs2.1) (star_any hs2.2)).wk fun σ H Q h => methR σ H Q h
  | extend => exact (pe_bm F.plainAttrs_list F.slot_list_extend F.type_list_extend (okM .extend) ha hes (base_of hb) (few_of hs hn) hl (star_cons hs2.1) (star_any hs2.2)).wk fun σ H Q h => methR σ H Q h
  | insert => exact (pe_bm F.plainAttrs_list F.slot_list_insert F.type_list_insert (okM .insert) ha hes (base_of hb) (few_of hs hn) hl (star_cons hs2.1) (star_any hs2.2)).wk fun σ H Q h => methR σ H Q h
  | _ => simp [mtArgs] at ho
/-! ### dicts of the store, text keys -/
theorem DKs.look {K : PySem.W.Frag} {ω μ : List Addr} {H : Hp} {k : Str} {d : D} : ∀ {ds : List (Key × D)} {vs : List (Key × V)}, DKs K ω μ H ds vs → lookK ds k = some d → ∃ v, valV vs (Sum.inr k) = some v ∧ DV K ω μ H d v
  | _, _, .nil, e => by simp [lookK] at e
  | _, _, .cons (k := k') (d := d') (v := v') h t, e => by
    unfold lookK at e
    split at e
    · rename_i hk
      obtain rfl := Option.some.inj e
      exact ⟨_, valV_pos hk, h⟩
    · rename_i hk
      obtain ⟨v, e1, h1⟩ := t.look e
      exact ⟨v, by rw [valV_neg hk]; exact e1, h1⟩
theorem dgetD_at {st : Sto} {x : D} {k : Str} {z : D} (e : dgetD st x k = some z) : ∃ n kvs, x = .loc n ∧ st[n]? = some (.dct kvs) ∧ lookK kvs k = some z := by
  unfold dgetD at e
  split at e
  · split at e
    · exact ⟨_, _, rfl, by assumption, e⟩
    · cases e
  · cases e
theorem kv_zip : ∀ (l : List Str) (m : List V), (l.map V.str).zip m = ((l.map (Sum.inr : Str → Key)).zip m).map fun kv => (kV kv.1, kv.2)
  | [], _ => rfl
  | _ :: _, [] => rfl
  | a :: l, b :: m => by
    show (V.str a, b) :: (l.map V.str).zip m = (kV (Sum.inr a), b) :: ((l.map (Sum.inr : Str → Key)).zip m).map _
    rw [kv_zip l m]
    rfl
theorem h_dget {k : Str} {j : Nat} (hu : X.A.units + 65 < cLine) (ha : PE X a (tD X.K (evE C ia))) : PE X (.Subscript a (.Constant (.str k) j p3) pos) (tD X.K (evE C (.dget ia k))) :=
  (pe_dget (by omega) ha pe_str (noSl_of rfl)).wk fun σ H Q ⟨ω, μ, δ, st, d, st', R, e, q⟩ => by
    simp only [evE] at e
    obtain ⟨⟨x, st1⟩, e1, e2⟩ := Option.bind_eq_some_iff.mp e
    obtain ⟨z, e3, e4⟩ := Option.map_eq_some_iff.mp e2
    obtain ⟨rfl, rfl⟩ := Prod.mk.inj e4
    refine ⟨ω, μ, δ, st, x, st1, R, e1, fun μ1 v1 H1 s1 r1 d1 => ?_⟩
    obtain ⟨n, kvs, rfl, hn, e5⟩ := dgetD_at e3
    cases d1 with
    | @loc ad _ hm =>
      obtain ⟨b, h1, vs, h2, h3, h4⟩ := r1.ob n _ hn
      rw [hm] at h1; cases h1
      obtain ⟨v, k1, k2⟩ := h4.look e5
      exact ⟨_, v, rfl, by rw [← k1]; exact DGet.k (k := Sum.inr k) h2, q μ1 _ H1 s1 r1 k2⟩
theorem mergeK_nodup : ∀ (more kvs : List (Key × V)), ((kvs ++ more).map (·.1)).Nodup → mergeK kvs more = kvs ++ more
  | [], kvs, _ => by simp [mergeK]
  | p :: r, kvs, h => by
    have hp : (kvs.any fun kv => decide (kv.1 = p.1)) = false := by
      rw [List.any_eq_false]
      intro q hq
      simp only [decide_eq_true_eq]
      intro e
      rw [List.map_append, List.nodup_append] at h
      exact h.2.2 q.1 (List.mem_map_of_mem hq) p.1 (by simp) e
    have e1 : L2.putK kvs p.1 p.2 = kvs ++ [p] := by
      unfold L2.putK
      rw [hp]
      rfl
    show mergeK (L2.putK kvs p.1 p.2) r = _
    rw [e1, mergeK_nodup r (kvs ++ [p]) (by simpa using h)]
    simp
/-- the pairs of a display -/
def trs (K : PySem.W.Frag) (C : Cfg) : List Str → Es → List (TE × TE)
  | k :: ks, .cons e es => (tC (.str k), tD K (evE C e)) :: trs K C ks es
  | _, _ => []
theorem pairs_run {K : PySem.W.Frag} {ω : List Addr} {δ : Env} {σ : L2.St} : ∀ (ks : List Str) (es : Es) {μ : List Addr} {H : Hp} {st st' : Sto} {xs : List D} {Q : List (V × V) → Hp → Prop}, ks.length = es.len → Rel K ω μ δ st σ H → evEs C es δ st = some (xs, st') →
    (∀ μ' vs H', Step [] μ H μ' H' → RS K ω μ' st' H' → DVs K ω μ' H' xs vs → Q ((ks.map V.str).zip vs) H') → tPairs (trs K C ks es) σ H Q
  | [], .nil, μ, H, st, st', xs, Q, _, R, e, q => by
    simp only [evEs, Option.some.injEq, Prod.mk.injEq] at e
    obtain ⟨rfl, rfl⟩ := e
    exact q μ [] H .refl R.rs .nil
  | [], .cons _ _, _, _, _, _, _, _, hl, _, _, _ => by simp [Es.len] at hl
  | _ :: _, .nil, _, _, _, _, _, _, hl, _, _, _ => by simp [Es.len] at hl
  | k :: ks, .cons a es, μ, H, st, st', xs, Q, hl, R, e, q => by
    simp only [evEs] at e
    obtain ⟨⟨x, st1⟩, e1, e2⟩ := Option.bind_eq_some_iff.mp e
    obtain ⟨⟨ys, st2⟩, e3, e4⟩ := Option.map_eq_some_iff.mp e2
    obtain ⟨rfl, rfl⟩ := Prod.mk.inj e4
    refine ⟨ω, μ, δ, st, x, st1, R, e1, fun μ1 v1 H1 s1 r1 d1 => ?_⟩
    refine pairs_run ks es (by simpa [Es.len] using hl) (R.step s1 r1) e3 fun μ2 vs H2 s2 r2 d2 => ?_
    exact q μ2 (v1 :: vs) H2 (s1.trans s2) r2 (.cons (d1.step s2) d2)
theorem DKs.zip {K : PySem.W.Frag} {ω μ : List Addr} {H : Hp} : ∀ {ds : List D} {vs : List V} (ks : List Key), DVs K ω μ H ds vs → DKs K ω μ H (ks.zip ds) (ks.zip vs)
  | _, _, [], _ => by simp; exact .nil
  | _, _, _ :: _, .nil => by simp; exact .nil
  | _, _, k :: ks, .cons h t => .cons h (DKs.zip ks t)
theorem inr_nodup {ks : List Str} (h : ks.Nodup) : (ks.map (Sum.inr : Str → Key)).Nodup := by
  rw [List.Nodup, List.pairwise_map]
  exact h.imp fun hne z => hne (Sum.inr.inj z)
theorem h_dct {ks : List Str} {ies : Es} {keys : List (Option Expr)} {values : List Expr} (h : PPs X pos keys values (trs X.K C ks ies)) (hall : keys.all (·.isSome) = true) (hl : keys.length = values.length) (h0 : keys ≠ []) (h15 : keys.length ≤ 15) (hk : ks.length = ies.len) :
    PE X (.Dict keys values pos) (tD X.K (evE C (.dct ks ies))) :=
  (pe_disp h hall hl h0 h15).wk fun σ H Q ⟨ω, μ, δ, st, d, st', R, e, q⟩ => by
    simp only [evE] at e
    obtain ⟨⟨xs, st1⟩, e1, e2⟩ := Option.bind_eq_some_iff.mp e
    simp only at e2
    split at e2
    · rename_i hh
      obtain ⟨g1, g2, g3, g4⟩ := hh
      obtain ⟨rfl, rfl⟩ := Prod.mk.inj (Option.some.inj e2)
      intro p hp
      have hpw : p ∉ ω := R.rs.nw hp
      refine pairs_run ks ies hk (R.mask (o := .dK []) hp) e1 fun μ1 vs H1 s1 r1 d1 => ?_
      have hp1 : H1 p = some (.dK []) := s1.keep p _ (R.rs.nin hp) (by simp) upd_same
      have hvl : ks.length = vs.length := by rw [← d1.length, g1]
      refine ⟨hp1, (ks.map (Sum.inr : Str → Key)).zip vs, ?_, ?_, ?_⟩
      · exact kv_zip ks vs
      · rw [List.length_zip, List.length_map]; omega
      · have hnd : ((([] : List (Key × V)) ++ (ks.map (Sum.inr : Str → Key)).zip vs).map (·.1)).Nodup := by
          rw [List.nil_append, List.map_fst_zip (by rw [List.length_map]; omega)]
          exact inr_nodup g3
        rw [mergeK_nodup _ _ hnd, List.nil_append]
        obtain ⟨s2, r2⟩ := r1.own (o := .dK ((ks.map (Sum.inr : Str → Key)).zip vs)) (p := p) List.mem_cons_self
        have d2 := d1.stepW (s2.one List.mem_cons_self)
        have st0 : Step [p] μ (upd H p (.dK [])) μ1 (upd H1 p (.dK ((ks.map (Sum.inr : Str → Key)).zip vs))) := s1.wk.trans s2
        refine q (μ1 ++ [p]) _ _ ((st0.unmask hp).adopt hp) (r2.adopt hpw ⟨_, upd_same, ?_, .zip _ d2.adopt⟩) (.loc (by rw [← r2.len]; simp))
        rw [List.length_zip, List.length_map]; omega
    · cases e2
/-- the truth of any value -/
def tTr (K : PySem.W.Frag) (m : MD) : TT := fun σ H Q => ∃ ω μ δ st d b st', Rel K ω μ δ st σ H ∧ m δ st = some (d, st') ∧ truD st' d = some b ∧ ∀ μ' H', Step [] μ H μ' H' → RS K ω μ' st' H' → Q b H'
theorem t_tru (ha : PE X a (tD X.K (evE C ia))) (hn : ∀ whole, isTrue a X.env whole = (do let v ← whole; standAt a.pos; holding [v] (truthy v))) : PT X a (tTr X.K (evE C ia)) :=
  (pt_truth ha hn).wk fun σ H Q ⟨ω, μ, δ, st, x, y, st1, R, e1, e3, q⟩ => by
    refine ⟨ω, μ, δ, st, x, st1, R, e1, fun μ1 v1 H1 s1 r1 d1 => ⟨y, ?_, q μ1 H1 s1 r1⟩⟩
    unfold truD at e3
    cases d1 with
    | bl b => simp only [der, Option.some.injEq] at e3; subst e3; exact rfl
    | int i =>
      simp only [der, Option.some.injEq] at e3
      subst e3
      show _ = _
      first | rfl | (simp; done) | (by_cases h : i = 0 <;> simp [h])
    | tup t l hv =>
      simp only [der, Option.some.injEq] at e3
      subst e3
      refine .inr (.inl ⟨_, t.sq, ?_⟩)
      cases hv <;> rfl
    | lst t l hv =>
      simp only [der, Option.some.injEq] at e3
      subst e3
      refine .inl ⟨_, t.sq, ?_⟩
      cases hv <;> rfl
    | @loc ad n hm =>
      simp only [der] at e3
      cases hnn : st1[n]? with
      | none => rw [hnn] at e3; simp at e3
      | some o =>
        rw [hnn] at e3
        cases o with
        | dct _ => simp at e3
        | lst ys =>
          simp only [Option.some.injEq] at e3
          subst e3
          obtain ⟨b, h1, vs, h2, h3, h4⟩ := r1.ob n _ hnn
          rw [hm] at h1; cases h1
          refine .inl ⟨_, .of h2, ?_⟩
          cases h4 <;> rfl
    | _ => simp [der] at e3
theorem h_iteT {c : Expr} {ic : E} (hc : PT X c (tTr X.K (evE C ic))) (ha : PE X a (tD X.K (evE C ia))) (hb : PE X b (tD X.K (evE C ib))) : PE X (.IfExp c a b pos) (tD X.K (evE C (.iteT ic ia ib))) :=
  (pe_ifExp hc ha hb).wk fun σ H Q ⟨ω, μ, δ, st, d, st', R, e, q⟩ => by
    simp only [evE] at e
    obtain ⟨⟨x, st1⟩, e1, e2⟩ := Option.bind_eq_some_iff.mp e
    simp only at e2
    cases hk : truD st1 x with
    | none => rw [hk] at e2; cases e2
    | some k =>
      rw [hk] at e2
      refine ⟨ω, μ, δ, st, x, k, st1, R, e1, hk, fun μ1 H1 s1 r1 => ?_⟩
      cases k with
      | true => exact ⟨ω, μ1, δ, st1, d, st', R.step s1 r1, e2, fun μ2 v2 H2 s2 r2 d2 => q μ2 v2 H2 (s1.trans s2) r2 d2⟩
      | false => exact ⟨ω, μ1, δ, st1, d, st', R.step s1 r1, e2, fun μ2 v2 H2 s2 r2 d2 => q μ2 v2 H2 (s1.trans s2) r2 d2⟩
end
end Ev
set_option Elab.async false
set_option linter.all false
set_option maxRecDepth 100000
set_option maxHeartbeats 4000000
/-! Statements over trees. -/
namespace Ev
open PySem PySem.Spec PyProof.Rows L2
/-! ### the two roads of a parallel assignment -/
def swapNames (ts : List Expr) (sc : Scope) : List Str := ts.filterMap fun
  | .Name id pos => if sc.names.lookup id == some .local && pos.line == (ts.head?.map (·.pos.line)).getD 0 then some id else none
  | _ => none
def swapK (ts vs : List Expr) (sc : Scope) : Option (Option (List Str)) :=
  if !(ts.length == 2 || ts.length == 3) || vs.length != ts.length then some none
  else if vs.any (fun | .Starred .. => true | _ => false) then some none
  else if (swapNames ts sc).length != ts.length || (swapNames ts sc).eraseDups.length != (swapNames ts sc).length then some none
  else if vs.all (foldedForSure 8) then some none
  else if vs.all (constantsAlone 8) then none
  else some (some (swapNames ts sc))
theorem swapped_eq {ts vs : List Expr} {k k2 : Nat} {p p2 : Pos} {env : PySem.Env} {r : Option (List Str)} (hb : env.scope.kind = .function) (h : swapK ts vs env.scope = some r) : swappedStores [.Tuple ts k p] (.Tuple vs k2 p2) env = pure r := by
  have hbk : env.blockKind = .function := by unfold Env.blockKind; rw [hb]; rfl
  have hbb : (env.blockKind != ScopeKind.function) = false := by rw [hbk]; rfl
  unfold swapK at h
  unfold swappedStores
  simp only [hbb, Bool.or_false, bind_pure_comp]
  split at h
  · rename_i h1
    rw [if_pos h1]
    obtain rfl := Option.some.inj h
    rfl
  · rename_i h1
    rw [if_neg h1]
    split at h
    · rename_i h2
      obtain rfl := Option.some.inj h
      exact (if_pos h2).trans rfl
    · rename_i h2
      refine (if_neg h2).trans ?_
      split at h
      · rename_i h3
        obtain rfl := Option.some.inj h
        exact (if_pos (by unfold swapNames at h3; exact h3)).trans rfl
      · rename_i h3
        refine (if_neg (by unfold swapNames at h3; exact h3)).trans ?_
        split at h
        · rename_i h4
          rw [if_pos h4]
          obtain rfl := Option.some.inj h
          rfl
        · rename_i h4
          rw [if_neg h4]
          split at h
          · cases h
          · rename_i h5
            rw [if_neg h5]
            obtain rfl := Option.some.inj h
            rfl
theorem swapped_not {tg e : Expr} {env : PySem.Env} (h : (match tg, e with | .Tuple .., .Tuple .. => false | .List .., .Tuple .. => false | _, _ => true) = true) : swappedStores [tg] e env = pure none := by
  unfold swappedStores
  cases tg <;> first | rfl | (cases e <;> first | rfl | simp at h)
/-! ### readings -/
abbrev MS := Env → Sto → Option (Fl × Env × Sto)
def FinS2 (K : PySem.W.Frag) (ω μ : List Addr) (H : Hp) (f : Fl) (δ' : Env) (st' : Sto) (D : Ends) : Prop := ∀ μ' σ' H', Step [] μ H μ' H' → Rel K ω μ' δ' st' σ' H' → match f with
  | .nx => D.nx σ' H'
  | .bk => D.bk σ' H'
  | .rt d => ∀ v, DV K ω μ' H' d v → D.rt v H'
def tS (K : PySem.W.Frag) (m : MS) : TS := fun D σ H => ∃ ω μ δ st f δ' st', Rel K ω μ δ st σ H ∧ m δ st = some (f, δ', st') ∧ FinS2 K ω μ H f δ' st' D
theorem _root_.L2.PS.wk {X : Cx} {e : Stmt} {t t' : TS} (h : PS X e t) (w : ∀ D σ H, t' D σ H → t D σ H) : PS X e t' := ⟨fun pins s σ H D I q => h.run pins s σ H D I (w _ _ _ q)⟩
theorem _root_.L2.PSs.wk {X : Cx} {e : List Stmt} {t t' : TS} (h : PSs X e t) (w : ∀ D σ H, t' D σ H → t D σ H) : PSs X e t' := ⟨fun pins s σ H D I q => h.run pins s σ H D I (w _ _ _ q)⟩
theorem FinS2.trans {K : PySem.W.Frag} {ω μ μ1 : List Addr} {H H1 : Hp} {f : Fl} {δ' : Env} {st' : Sto} {D : Ends} (q : FinS2 K ω μ H f δ' st' D) (s : Step [] μ H μ1 H1) : FinS2 K ω μ1 H1 f δ' st' D := fun μ' σ' H' s' R => q μ' σ' H' (s.trans s') R
section
variable {X : Cx} {C : Cfg} {e e2 : Expr} {ie ie2 ic : E} {pos : Pos} {b : List Stmt} {ib ia : Ss} {tg : Expr} {g : G} {it : It} {iter : Expr}
theorem s_pass : PS X (.Pass pos) (tS X.K (evS C .pass)) := ps_pass.wk fun D σ H ⟨ω, μ, δ, st, f, δ', st', R, e, q⟩ => by
  simp only [evS, Option.some.injEq, Prod.mk.injEq] at e
  obtain ⟨rfl, rfl, rfl⟩ := e
  exact q μ σ H .refl R
theorem s_brk : PS X (.Break pos) (tS X.K (evS C .brk)) := ps_break.wk fun D σ H ⟨ω, μ, δ, st, f, δ', st', R, e, q⟩ => by
  simp only [evS, Option.some.injEq, Prod.mk.injEq] at e
  obtain ⟨rfl, rfl, rfl⟩ := e
  exact q μ σ H .refl R
theorem s_never {t : Stmt} : PS X t (tS X.K (evS C .never)) := ps_never.wk fun D σ H ⟨ω, μ, δ, st, f, δ', st', R, e, q⟩ => by
  simp [evS] at e
theorem s_setR {te : TE} {i : Nat} (w : ∀ σ H Q, tD X.K (evE C ie) σ H Q → te σ H Q) (D : Ends) (σ : L2.St) (H : Hp) (h : tS X.K (evS C (.set i ie)) D σ H) : tAsg te (gName i) D σ H := by
  obtain ⟨ω, μ, δ, st, f, δ', st', R, e, q⟩ := h
  simp only [evS] at e
  obtain ⟨⟨x, st1⟩, e1, e2⟩ := Option.map_eq_some_iff.mp e
  simp only [Prod.mk.injEq] at e2
  obtain ⟨rfl, rfl, rfl⟩ := e2
  exact w σ H _ ⟨ω, μ, δ, st, x, st1, R, e1, fun μ1 v1 H1 s1 r1 d1 => q μ1 _ H1 s1 ((R.step s1 r1).set d1)⟩
theorem s_set {i : Nat} {x : Str} {p : Pos} (hN : X.N.Nodup) (hi : X.N[i]? = some x) (hx : Loc X.env.scope x) (he : PE X e (tD X.K (evE C ie))) (hs : nComp e = true) (hf : X.fn x = true ∨ X.env.scope.names.lookup x = some .local) :
    PS X (.Assign [.Name x p] e pos) (tS X.K (evS C (.set i ie))) := (ps_set hN hi hx he (swaps_of hs) hf).wk fun D σ H h => s_setR (fun _ _ _ h => h) D σ H h
theorem s_asg (he : PE X e (tD X.K (evE C ie))) (hg : PG X tg (tG X.K (evG g) (G.ixs g))) (hs : nComp e = true) (hw : swappedStores [tg] e X.env = pure none) (h1 : nStar tg = true) : PS X (.Assign [tg] e pos) (tS X.K (evS C (.asg g ie))) :=
  (ps_asg he hg (swaps_of hs) hw (by cases tg <;> first | rfl | simp [nStar] at h1)).wk fun D σ H ⟨ω, μ, δ, st, f, δ', st', R, e, q⟩ => by
    simp only [evS] at e
    obtain ⟨⟨x, st1⟩, e1, e2⟩ := Option.bind_eq_some_iff.mp e
    obtain ⟨δ1, e3, e4⟩ := Option.map_eq_some_iff.mp e2
    simp only [Prod.mk.injEq] at e4
    obtain ⟨rfl, rfl, rfl⟩ := e4
    exact ⟨ω, μ, δ, st, x, st1, R, e1, fun μ1 v1 H1 s1 r1 d1 => ⟨ω, μ1, δ, st1, x, δ1, R.step s1 r1, d1, e3, fun σ' R' _ => q μ1 σ' H1 s1 R'⟩⟩
theorem s_par2 {i j : Nat} {x y : Str} {a b : Expr} {ies : Es} {px py pt : Pos} {kt k2 : Nat} {pt2 : Pos} (hc : X.calm = true) (hN : X.N.Nodup) (hi : X.N[i]? = some x) (hj : X.N[j]? = some y) (hij : i ≠ j)
    (hx : X.env.scope.names.lookup x = some .local) (hy : X.env.scope.names.lookup y = some .local) (ha : PA X [a, b] (tA X.K (evEs C ies)))
    (hw : swappedStores [.Tuple [.Name x px, .Name y py] kt pt] (.Tuple [a, b] k2 pt2) X.env = pure (some [x, y])) : PS X (.Assign [.Tuple [.Name x px, .Name y py] kt pt] (.Tuple [a, b] k2 pt2) pos) (tS X.K (evS C (.par [i, j] ies))) :=
  (ps_par hc hN hi hj hij hx hy ha hw rfl).wk fun D σ H ⟨ω, μ, δ, st, f, δ', st', R, e, q⟩ => by
    simp only [evS] at e
    obtain ⟨⟨xs, st1⟩, e1, e2⟩ := Option.bind_eq_some_iff.mp e
    obtain ⟨δ1, e3, e4⟩ := Option.map_eq_some_iff.mp e2
    simp only [Prod.mk.injEq] at e4
    obtain ⟨rfl, rfl, rfl⟩ := e4
    refine ⟨ω, μ, δ, st, xs, st1, R, e1, fun μ1 vs H1 s1 r1 d1 => ?_⟩
    match xs, vs, d1, e3 with
    | [a, b], [v, w], .cons d1 (.cons d2 .nil), e3 =>
      simp only [setAll, Option.some.injEq] at e3
      subst e3
      exact ⟨v, w, rfl, q μ1 _ H1 s1 (((R.step s1 r1).set d1).set d2)⟩
    | [], _, _, e3 => simp [setAll] at e3
    | [_], _, _, e3 => simp [setAll] at e3
    | _ :: _ :: _ :: _, _, _, e3 => simp [setAll] at e3
theorem s_par3 {i j l : Nat} {x y z : Str} {a b c : Expr} {ies : Es} {px py pz pt : Pos} {kt k2 : Nat} {pt2 : Pos} (hc : X.calm = true) (hN : X.N.Nodup) (hi : X.N[i]? = some x) (hj : X.N[j]? = some y) (hl : X.N[l]? = some z) (hij : i ≠ j) (hil : i ≠ l) (hjl : j ≠ l)
    (hx : X.env.scope.names.lookup x = some .local) (hy : X.env.scope.names.lookup y = some .local) (hz : X.env.scope.names.lookup z = some .local) (ha : PA X [a, b, c] (tA X.K (evEs C ies)))
    (hw : swappedStores [.Tuple [.Name x px, .Name y py, .Name z pz] kt pt] (.Tuple [a, b, c] k2 pt2) X.env = pure (some [x, y, z])) : PS X (.Assign [.Tuple [.Name x px, .Name y py, .Name z pz] kt pt] (.Tuple [a, b, c] k2 pt2) pos) (tS X.K (evS C (.par [i, j, l] ies))) :=
  (ps_par3 hc hN hi hj hl hij hil hjl hx hy hz ha hw rfl).wk fun D σ H ⟨ω, μ, δ, st, f, δ', st', R, e, q⟩ => by
    simp only [evS] at e
    obtain ⟨⟨xs, st1⟩, e1, e2⟩ := Option.bind_eq_some_iff.mp e
    obtain ⟨δ1, e3, e4⟩ := Option.map_eq_some_iff.mp e2
    simp only [Prod.mk.injEq] at e4
    obtain ⟨rfl, rfl, rfl⟩ := e4
    refine ⟨ω, μ, δ, st, xs, st1, R, e1, fun μ1 vs H1 s1 r1 d1 => ?_⟩
    match xs, vs, d1, e3 with
    | [a, b, c], [u, v, w], .cons d1 (.cons d2 (.cons d3 .nil)), e3 =>
      simp only [setAll, Option.some.injEq] at e3
      subst e3
      exact ⟨u, v, w, rfl, q μ1 _ H1 s1 ((((R.step s1 r1).set d1).set d2).set d3)⟩
    | [], _, _, e3 => simp [setAll] at e3
    | [_], _, _, e3 => simp [setAll] at e3
    | [_, _], _, _, e3 => simp [setAll] at e3
    | _ :: _ :: _ :: _ :: _, _, _, e3 => simp [setAll] at e3
theorem lookK_any {K : PySem.W.Frag} {ω μ : List Addr} {H : Hp} {k : Str} : ∀ {ds : List (Key × D)} {vs : List (Key × V)}, DKs K ω μ H ds vs → (lookK ds k).isSome = true → (vs.any fun kv => decide (kv.1 = Sum.inr k)) = true
  | _, _, .nil, e => by simp [lookK] at e
  | _, _, .cons (k := k') h t, e => by
    rw [List.any_cons]
    unfold lookK at e
    split at e
    · rename_i hk
      simp [hk]
    · simp [lookK_any t e]
theorem DKs.put {K : PySem.W.Frag} {ω μ : List Addr} {H : Hp} {k : Str} {d : D} {v : V} (hd : DV K ω μ H d v) : ∀ {ds : List (Key × D)} {vs : List (Key × V)}, DKs K ω μ H ds vs → DKs K ω μ H (putK ds k d) (vs.map fun kv => if kv.1 = Sum.inr k then (kv.1, v) else kv)
  | _, _, .nil => .nil
  | _, _, .cons (k := k') (d := d') (v := v') h t => by
    have ih := DKs.put hd t (k := k)
    unfold putK at ih ⊢
    rw [List.map_cons, List.map_cons]
    by_cases hk : k' = Sum.inr k
    · simp only [hk, if_true]
      exact .cons hd ih
    · simp only [hk, if_false]
      exact .cons h ih
theorem DKs.length {K : PySem.W.Frag} {ω μ : List Addr} {H : Hp} : ∀ {ds : List (Key × D)} {vs : List (Key × V)}, DKs K ω μ H ds vs → ds.length = vs.length
  | _, _, .nil => rfl
  | _, _, .cons _ t => by simp [DKs.length t]
theorem s_dput {k : Str} {j : Nat} {p3 p4 : Pos} (hu : X.A.units + 65 < cLine) (ho : PE X e2 (tD X.K (evE C ie2))) (he : PE X e (tD X.K (evE C ie))) (hs : nComp e = true) :
    PS X (.Assign [.Subscript e2 (.Constant (.str k) j p3) p4] e pos) (tS X.K (evS C (.dput ie2 k ie))) :=
  (ps_dput (by omega) ho pe_str he (swaps_of hs)).wk fun D σ H ⟨ω, μ, δ, st, f, δ', st', R, e, q⟩ => by
    simp only [evS] at e
    obtain ⟨⟨x, st1⟩, e1, e2⟩ := Option.bind_eq_some_iff.mp e
    obtain ⟨⟨y, st2⟩, e3, e4⟩ := Option.bind_eq_some_iff.mp e2
    cases y <;> simp only [reduceCtorEq] at e4
    rename_i n
    split at e4
    · rename_i kvs hn
      split at e4
      · rename_i hk
        simp only [Option.some.injEq, Prod.mk.injEq] at e4
        obtain ⟨rfl, rfl, rfl⟩ := e4
        refine ⟨ω, μ, δ, st, x, st1, R, e1, fun μ1 v1 H1 s1 r1 d1 => ⟨ω, μ1, δ, st1, .loc n, st2, R.step s1 r1, e3, fun μ2 v2 H2 s2 r2 d2 => ?_⟩⟩
        cases d2 with
        | @loc ad _ hm =>
          obtain ⟨b, h1, vs, h2, h3, h4⟩ := r2.ob n _ hn
          rw [hm] at h1; cases h1
          have hl := h4.length
          have lim : (1000 : Nat) < sizeLine := by rw [sizeLine_eq]; decide
          have hput : L2.putK vs (Sum.inr k : Key) v1 = vs.map fun kv => if kv.1 = Sum.inr k then (kv.1, v1) else kv := by
            unfold L2.putK
            rw [if_pos (lookK_any h4 hk)]
          refine ⟨ad, upd H2 ad (.dK (L2.putK vs (Sum.inr k) v1)), rfl, DPut.k (k := Sum.inr k) (v := v1) h2 (by omega), ?_⟩
          obtain ⟨s3, r3⟩ := r2.put (o := .dK (L2.putK vs (Sum.inr k) v1)) (so := .dct (putK kvs k x)) hm fun H' s e => ⟨_, e, by unfold putK; rw [List.length_map]; exact h3, by rw [hput]; exact (h4.step s).put ((d1.step s2).step s)⟩
          exact q μ2 _ _ ((s1.trans s2).trans s3) (((R.step s1 r1).step s2 r2).step s3 r3)
      · cases e4
    · cases e4
theorem s_expr (he : PE X e (tD X.K (evE C ie))) (hs : nComp e = true) : PS X (.Expr e pos) (tS X.K (evS C (.expr ie))) :=
  (ps_expr he (swaps_of hs)).wk fun D σ H ⟨ω, μ, δ, st, f, δ', st', R, e, q⟩ => by
    simp only [evS] at e
    obtain ⟨⟨x, st1⟩, e1, e2⟩ := Option.map_eq_some_iff.mp e
    simp only [Prod.mk.injEq] at e2
    obtain ⟨rfl, rfl, rfl⟩ := e2
    exact ⟨ω, μ, δ, st, x, st1, R, e1, fun μ1 v1 H1 s1 r1 d1 => q μ1 _ H1 s1 (R.step s1 r1)⟩
theorem s_ret (he : PE X e (tD X.K (evE C ie))) : PS X (.Return (some e) pos) (tS X.K (evS C (.ret ie))) :=
  (ps_ret he).wk fun D σ H ⟨ω, μ, δ, st, f, δ', st', R, e, q⟩ => by
    simp only [evS] at e
    obtain ⟨⟨x, st1⟩, e1, e2⟩ := Option.map_eq_some_iff.mp e
    simp only [Prod.mk.injEq] at e2
    obtain ⟨rfl, rfl, rfl⟩ := e2
    exact ⟨ω, μ, δ, st, x, st1, R, e1, fun μ1 v1 H1 s1 r1 d1 => q μ1 _ H1 s1 (R.step s1 r1) v1 d1⟩
theorem s_retN : PS X (.Return none pos) (tS X.K (evS C (.ret .non))) := ps_retN.wk fun D σ H ⟨ω, μ, δ, st, f, δ', st', R, e, q⟩ => by
  simp only [evS, evE, Option.map_some, Option.some.injEq, Prod.mk.injEq] at e
  obtain ⟨rfl, rfl, rfl⟩ := e
  exact q μ σ H .refl R .non .non
theorem ss_nil : PSs X [] (tS X.K (evSs C .nil)) := pss_nil.wk fun D σ H ⟨ω, μ, δ, st, f, δ', st', R, e, q⟩ => by
  simp only [evSs, Option.some.injEq, Prod.mk.injEq] at e
  obtain ⟨rfl, rfl, rfl⟩ := e
  exact q μ σ H .refl R
theorem ss_cons {t : Stmt} {ts : List Stmt} {i : S} {is : Ss} (h1 : PS X t (tS X.K (evS C i))) (h2 : PSs X ts (tS X.K (evSs C is))) : PSs X (t :: ts) (tS X.K (evSs C (.cons i is))) :=
  (pss_cons h1 h2).wk fun D σ H ⟨ω, μ, δ, st, f, δ', st', R, e, q⟩ => by
    simp only [evSs] at e
    obtain ⟨⟨f1, δ1, st1⟩, e1, e2⟩ := Option.bind_eq_some_iff.mp e
    refine ⟨ω, μ, δ, st, f1, δ1, st1, R, e1, ?_⟩
    cases f1 with
    | nx => exact fun μ1 σ1 H1 s1 R1 => ⟨ω, μ1, δ1, st1, f, δ', st', R1, e2, q.trans s1⟩
    | bk =>
      simp only [Option.some.injEq, Prod.mk.injEq] at e2
      obtain ⟨rfl, rfl, rfl⟩ := e2
      exact q
    | rt d =>
      simp only [Option.some.injEq, Prod.mk.injEq] at e2
      obtain ⟨rfl, rfl, rfl⟩ := e2
      exact q
theorem s_iff {a b : List Stmt} (hc : PT X e (tT X.K (evE C ic))) (ha : PSs X a (tS X.K (evSs C ia))) (hb : PSs X b (tS X.K (evSs C ib))) : PS X (.If e a b pos) (tS X.K (evS C (.iff ic ia ib))) :=
  (ps_if hc ha hb).wk fun D σ H ⟨ω, μ, δ, st, f, δ', st', R, e, q⟩ => by
    simp only [evS] at e
    obtain ⟨⟨x, st1⟩, e1, e2⟩ := Option.bind_eq_some_iff.mp e
    obtain ⟨k, rfl⟩ : ∃ k, x = .bl k := by
      cases x with
      | bl k => exact ⟨k, rfl⟩
      | _ => simp at e2
    refine ⟨ω, μ, δ, st, k, st1, R, e1, fun μ1 H1 s1 r1 => ?_⟩
    cases k with
    | true => exact ⟨ω, μ1, δ, st1, f, δ', st', R.step s1 r1, e2, q.trans s1⟩
    | false => exact ⟨ω, μ1, δ, st1, f, δ', st', R.step s1 r1, e2, q.trans s1⟩
theorem s_for (hp : PassesOwn (model X.prog X.w) X.A X.env X.xe) (hc : X.calm = true) (hi : PI X tg iter (tI X.K (evI C it))) (hg : PG X tg (tG X.K (evG g) (G.ixs g))) (hb : PSs X b (tS X.K (evSs C ib))) (hs : nSet iter = true) :
    PS X (.For tg iter b [] pos) (tS X.K (evS C (.for g it ib))) :=
  (ps_for hp hc hi hg hb (fun _ => folded_of hs)).wk fun D σ H ⟨ω, μ, δ, st, f, δ', st', R, e, q⟩ => by
    simp only [evS] at e
    obtain ⟨⟨w, st1⟩, e1, e2⟩ := Option.bind_eq_some_iff.mp e
    refine ⟨ω, μ, δ, st, w, st1, R, e1, fun μ1 J H1 s1 r1 wk => ?_⟩
    let W : Nat → Nat → L2.St → Hp → Prop := fun i n σ2 H2 => n = w.items.length - i ∧ ∃ μ2 δ2 st2, Rel X.K ω μ2 δ2 st2 σ2 H2 ∧ Step [] μ1 H1 μ2 H2 ∧ evFor (evG g) (evSs C ib) w.ok (w.items.drop i) δ2 st2 = some (f, δ', st')
    refine ⟨W, ⟨_, rfl, μ1, δ, st1, R.step s1 r1, .refl, by rw [List.drop_zero]; exact e2⟩, ?_⟩
    rintro i n σ2 H2 ⟨rfl, μ2, δ2, st2, R2, S2, ev⟩
    have wk2 := wk.step S2
    cases hi : w.items[i]? with
    | none =>
      rw [drop_none hi] at ev
      simp only [evFor] at ev
      split at ev
      · rename_i hok
        simp only [Option.some.injEq, Prod.mk.injEq] at ev
        obtain ⟨rfl, rfl, rfl⟩ := ev
        exact .inl ⟨wk2.stop R2.rs hok (List.getElem?_eq_none_iff.mp hi), q μ2 σ2 H2 (s1.trans S2) R2⟩
      · cases ev
    | some dd =>
      rw [drop_some hi] at ev
      simp only [evFor] at ev
      split at ev
      · rename_i hok
        obtain ⟨δ3, g3, ev1⟩ := Option.bind_eq_some_iff.mp ev
        obtain ⟨⟨f4, δ4, st4⟩, b4, ev2⟩ := Option.bind_eq_some_iff.mp ev1
        obtain ⟨jgo, jy⟩ := wk2.go R2.rs hok hi
        have hlt : i < w.items.length := (List.getElem?_eq_some_iff.mp hi).1
        refine .inr ⟨jgo, fun σ' H' => W (i + 1) (w.items.length - (i + 1)) σ' H', fun σ' H' w' => ⟨_, by omega, w'⟩, fun x H3 y => ?_⟩
        obtain ⟨s3, r3, d3⟩ := jy x H3 y
        refine ⟨ω, μ2, δ2, st2, dd, δ3, R2.step s3 r3, d3, g3, fun σ3 R3 _ => ⟨ω, μ2, δ3, st2, f4, δ4, st4, R3, b4, fun μ4 σ4 H4 s4 R4 => ?_⟩⟩
        have S4 : Step [] μ1 H1 μ4 H4 := (S2.trans s3).trans s4
        cases f4 with
        | nx => exact ⟨rfl, μ4, δ4, st4, R4, S4, ev2⟩
        | bk =>
          simp only [Option.some.injEq, Prod.mk.injEq] at ev2
          obtain ⟨rfl, rfl, rfl⟩ := ev2
          exact q μ4 σ4 H4 (s1.trans S4) R4
        | rt d =>
          simp only [Option.some.injEq, Prod.mk.injEq] at ev2
          obtain ⟨rfl, rfl, rfl⟩ := ev2
          exact q μ4 σ4 H4 (s1.trans S4) R4
      · cases ev
theorem s_while (hp : PassesOwn (model X.prog X.w) X.A X.env X.xe) (hc : PT X e (tT X.K (evE C ic))) (hb : PSs X b (tS X.K (evSs C ib))) : PS X (.While e b [] pos) (tS X.K (evS C (.while ic ib))) :=
  (ps_while hp hc hb).wk fun D σ H ⟨ω, μ, δ, st, f, δ', st', R, e, q⟩ => by
    simp only [evS] at e
    let W : Nat → L2.St → Hp → Prop := fun n σ2 H2 => ∃ μ2 δ2 st2, Rel X.K ω μ2 δ2 st2 σ2 H2 ∧ Step [] μ H μ2 H2 ∧ evWh (evE C ic) (evSs C ib) n δ2 st2 = some (f, δ', st')
    refine ⟨W, ⟨_, μ, δ, st, R, .refl, e⟩, ?_⟩
    rintro n σ2 H2 ⟨μ2, δ2, st2, R2, S2, ev⟩
    cases n with
    | zero => simp [evWh] at ev
    | succ n =>
      simp only [evWh] at ev
      obtain ⟨⟨x, st3⟩, e1, e2⟩ := Option.bind_eq_some_iff.mp ev
      obtain ⟨k, rfl⟩ : ∃ k, x = .bl k := by
        cases x with
        | bl k => exact ⟨k, rfl⟩
        | _ => simp at e2
      refine ⟨ω, μ2, δ2, st2, k, st3, R2, e1, fun μ3 H3 s3 r3 => ?_⟩
      cases k with
      | false =>
        simp only [Option.some.injEq, Prod.mk.injEq] at e2
        obtain ⟨rfl, rfl, rfl⟩ := e2
        simp only [Bool.false_eq_true, if_false]
        exact q μ3 σ2 H3 (S2.trans s3) (R2.step s3 r3)
      | true =>
        simp only [if_true]
        obtain ⟨⟨f4, δ4, st4⟩, b4, ev2⟩ := Option.bind_eq_some_iff.mp e2
        refine ⟨fun σ' H' => W n σ' H', fun σ' H' w' => ⟨n, by omega, w'⟩, ω, μ3, δ2, st3, f4, δ4, st4, R2.step s3 r3, b4, fun μ4 σ4 H4 s4 R4 => ?_⟩
        have S4 : Step [] μ H μ4 H4 := (S2.trans s3).trans s4
        cases f4 with
        | nx => exact ⟨μ4, δ4, st4, R4, S4, ev2⟩
        | bk =>
          simp only [Option.some.injEq, Prod.mk.injEq] at ev2
          obtain ⟨rfl, rfl, rfl⟩ := ev2
          exact q μ4 σ4 H4 S4 R4
        | rt d =>
          simp only [Option.some.injEq, Prod.mk.injEq] at ev2
          obtain ⟨rfl, rfl, rfl⟩ := ev2
          exact q μ4 σ4 H4 S4 R4
end
end Ev
set_option Elab.async false
set_option linter.all false
set_option maxRecDepth 100000
set_option maxHeartbeats 4000000
/-! The IR agrees with the text: a check, and what it is worth. -/
namespace Ev
open PySem PySem.Spec PyProof.Rows L2
structure Ck where
  N : List Str
  sc : Scope
  fnb : Str → Bool
  fns : List (Str × List Str)
  kws : List (Nat × List Str × List Nat)
  frees : List Str
def Ck.blk (k : Ck) (scope : Scope) : Ck := { k with sc := relS scope k.sc, fnb := fun x => scope.names.lookup x == some .cell }
def Ck.visB (k : Ck) (x : Str) : Bool := match k.sc.names.lookup x with
  | some .local => true
  | some .cell => true
  | some .free => true
  | _ => false
def Ck.locB (k : Ck) (x : Str) : Bool := match k.sc.names.lookup x with
  | some .local => true
  | some .cell => true
  | _ => false
def Ck.glB (k : Ck) (x : Str) : Bool := match k.sc.names.lookup x with
  | some .globalImplicit => !(x == ("__debug__" : Str))
  | _ => false
def nIf : Expr → Bool
  | .IfExp .. => false
  | .NamedExpr .. => false
  | _ => true
def isB : Expr → Bool
  | .BoolOp .. => true
  | _ => false
/-! ### targets -/
mutual
def agG (k : Ck) : G → Expr → Bool
  | .name i, e => (match e with
    | .Name x _ => decide (k.N[i]? = some x) && k.locB x && (k.fnb x || (k.sc.names.lookup x == some .local))
    | _ => false)
  | .tup gs, e => (match e with
    | .Tuple es _ _ => agGs k gs es
    | _ => false)
def agGs (k : Ck) : List G → List Expr → Bool
  | [], es => (match es with
    | [] => true
    | _ => false)
  | g :: gs, es => (match es with
    | e :: es => nStar e && agG k g e && agGs k gs es
    | [] => false)
end
/-! ### expressions -/
def keysOk : List Str → List (Option Expr) → Bool
  | [], [] => true
  | k :: ks, some (.Constant (.str x) _ _) :: es => decide (x = k) && keysOk ks es
  | _, _ => false
def own (k : Ck) (is : List Nat) : List (Str × Nat) := is.map fun i => (k.N.getD i "", i)
mutual
def agE (k : Ck) : E → Expr → Bool
  | .non, e => (match e with
    | .Constant .none _ _ => true
    | _ => false)
  | .bl b, e => (match e with
    | .Constant (.bool v) _ _ => v == b
    | _ => false)
  | .int i, e => (match e with
    | .Constant (.int v) _ _ => v == i
    | _ => false)
  | .str s, e => (match e with
    | .Constant (.str v) _ _ => decide (v = s)
    | _ => false)
  | .var i, e => (match e with
    | .Name x _ => decide (k.N[i]? = some x) && k.visB x && !(x == ("__debug__" : Str)) && !(x == ("__classdict__" : Str))
    | _ => false)
  | .gl y, e => (match e with
    | .Name x _ => decide (x = y) && k.glB x
    | _ => false)
  | .bin o a b, e => (match e with
    | .BinOp x op y _ => decide (opB o = op) && agE k a x && agE k b y
    | _ => false)
  | .cmp o a b, e => (match e with
    | .Compare x [op] [y] _ => decide (opC o = op) && nSet y && agE k a x && agE k b y
    | _ => false)
  | .chain o o' a b c, e => (match e with
    | .Compare x [op, op'] [y, z] _ => decide (opC o = op) && decide (opC o' = op') && nSet z && agE k a x && agE k b y && agE k c z
    | _ => false)
  | .neg a, e => (match e with
    | .UnaryOp .USub x _ => agE k a x
    | _ => false)
  | .not a, e => (match e with
    | .UnaryOp .Not x _ => nIf x && agE k a x
    | _ => false)
  | .and a b, e => (match e with
    | .BoolOp .And [x, y] _ => nIf x && nIf y && agE k a x && agE k b y
    | .BoolOp .And (x :: y :: z :: r) p => nIf x && agE k a x && agE k b (.BoolOp .And (y :: z :: r) p)
    | _ => false)
  | .or a b, e => (match e with
    | .BoolOp .Or [x, y] _ => nIf x && nIf y && agE k a x && agE k b y
    | .BoolOp .Or (x :: y :: z :: r) p => nIf x && agE k a x && agE k b (.BoolOp .Or (y :: z :: r) p)
    | _ => false)
  | .ite c a b, e => (match e with
    | .IfExp t x y _ => nIf t && agE k c t && agE k a x && agE k b y
    | _ => false)
  | .tup es, e => (match e with
    | .Tuple xs _ _ => decide (es.len ≤ 1000) && agEs k es xs
    | _ => false)
  | .lst _ es, e => (match e with
    | .List xs _ => agEs k es xs
    | _ => false)
  | .dct ks es, e => (match e with
    | .Dict keys values _ => keysOk ks keys && decide (keys.length = values.length) && decide (keys.length ≤ 15) && decide (0 < keys.length) && decide (ks.length = es.len) && agEs k es values
    | _ => false)
  | .call f es, e => (match e with
    | .Call (.Name x _) (a :: as) [] _ => k.glB x && agEs k es (a :: as) && (match k.fns[f]? with
      | some (nm, ps) => decide (nm = x) && decide (es.len = ps.length)
      | none => false)
    | _ => false)
  | .callK f js es, e => (match e with
    | .Call (.Name x _) [] kws _ => k.glB x && agEs k es (kws.map (·.value)) && (match k.fns[f]? with
      | some (nm, ps) => decide (nm = x) && decide (es.len = ps.length) && js.all (fun j => decide (j < ps.length)) && decide (js.length = ps.length) && k.kws.any (fun q => decide (q.1 = f) && decide (kws.map (·.arg) = q.2.1.map some) && decide (q.2.2 = js))
      | none => false)
    | _ => false)
  | .b1 _ o a, e => (match e with
    | .Call (.Name x _) [y] [] _ => decide (x = nmB o) && k.glB x && decide (x ∈ k.frees) && nStar y && agE k a y
    | _ => false)
  | .b2 o a b, e => (match e with
    | .Call (.Name x _) [y, z] [] _ => decide (x = nm2 o) && k.glB x && decide (x ∈ k.frees) && nStar y && nStar z && agE k a y && agE k b z
    | _ => false)
  | .trng _ t a, e => (match e with
    | .Call (.Name x _) [.Call (.Name y _) [z] [] _] [] _ => decide (x = if t then ("tuple" : Str) else ("list" : Str)) && k.glB x && decide (x ∈ k.frees) && decide (y = ("range" : Str)) && k.glB y && decide (y ∈ k.frees) && nStar z && agE k a z
    | _ => false)
  | .isi a t, e => (match e with
    | .Call (.Name x _) [y, .Name z _] [] _ => decide (x = ("isinstance" : Str)) && k.glB x && decide (x ∈ k.frees) && decide (z = Str.ofString (tyN t)) && k.glB z && decide (z ∈ k.frees) && nStar y && agE k a y
    | _ => false)
  | .ix a i, e => (match e with
    | .Subscript x y _ => nSlice y && agE k a x && agE k i y
    | _ => false)
  | .gdx n i, e => (match e with
    | .Subscript (.Name x _) y _ => decide (x = n) && k.glB x && nSlice y && agE k i y
    | _ => false)
  | .dget a s, e => (match e with
    | .Subscript x (.Constant (.str y) _ _) _ => decide (y = s) && agE k a x
    | _ => false)
  | .sl _ a lo hi, e => (match e with
    | .Subscript x (.Slice l h none _) _ => agE k a x && (match l with
      | none => lo.isSkip
      | some y => !lo.isSkip && agE k lo y) && (match h with
      | none => hi.isSkip
      | some y => !hi.isSkip && agE k hi y)
    | _ => false)
  | .rev _ a, e => (match e with
    | .Subscript x (.Slice none none (some (.UnaryOp .USub (.Constant (.int 1) _ _) _)) _) _ => agE k a x
    | _ => false)
  | .comp _ ow g it c el, e => (match e with
    | .ListComp elt [⟨tg, iter, ifs, asy⟩] scope _ => decide (asy = 0) && nSet iter && blkC k.N k.sc scope (own k ow) && (G.ixs g).all (fun i => decide (i ∈ ow)) && agI k it tg iter && agG (k.blk scope) g tg && agE (k.blk scope) el elt && (match ifs with
      | [] => (match c with
        | .bl true => true
        | _ => false)
      | [x] => nIf x && agE (k.blk scope) c x
      | _ => false)
    | _ => false)
  | .comp2 _ ow vs g it g1 it1 c el, e => (match e with
    | .ListComp elt [⟨tg, iter, ifs, asy⟩, ⟨tg1, iter1, ifs1, asy1⟩] scope _ => decide (asy = 0) && decide (asy1 = 0) && nSet iter && nSet iter1 && blkC k.N k.sc scope (own k ow) && (G.ixs g).all (fun i => decide (i ∈ ow)) && (G.ixs g1).all (fun i => decide (i ∈ vs)) && vs.all (fun i => decide (i ∈ ow)) && agI k it tg iter && agG (k.blk scope) g tg && agI (k.blk scope) it1 tg1 iter1 && agG (k.blk scope) g1 tg1 && agE (k.blk scope) el elt && ifs.isEmpty && (match ifs1 with
      | [] => (match c with
        | .bl true => true
        | _ => false)
      | [x] => nIf x && agE (k.blk scope) c x
      | _ => false)
    | _ => false)
  | .meth o a es, e => (match e with
    | .Call (.Attribute x nm apos) xs [] cpos => decide (nm = nmM o) && nCall x && (apos.endLine == cpos.line) && agE k a x && agEs k es xs && (match xs with
      | [] => (match o, es with
        | .pop, .nil => true
        | _, _ => false)
      | _ :: ys => mtArgs o && decide (ys.length < 20))
    | _ => false)
  | .iteT c a b, e => (match e with
    | .IfExp t x y _ => nTest t && agE k c t && agE k a x && agE k b y
    | _ => false)
  | .skip, _ => false
def agEs (k : Ck) : Es → List Expr → Bool
  | .nil, es => (match es with
    | [] => true
    | _ => false)
  | .cons e es, xs => (match xs with
    | x :: xs => nStar x && agE k e x && agEs k es xs
    | [] => false)
def agI (k : Ck) : It → Expr → Expr → Bool
  | .seq a, _, e => agE k a e
  | .rng1 a, _, e => (match e with
    | .Call (.Name x _) [y] [] _ => decide (x = ("range" : Str)) && k.glB x && decide (x ∈ k.frees) && nStar y && agE k a y
    | _ => false)
  | .rng2 a b, _, e => (match e with
    | .Call (.Name x _) [y, z] [] _ => decide (x = ("range" : Str)) && k.glB x && decide (x ∈ k.frees) && nStar y && nStar z && agE k a y && agE k b z
    | _ => false)
  | .enm a, tg, e => (match tg, e with
    | .Tuple _ _ _, .Call (.Name x _) [y] [] _ => decide (x = ("enumerate" : Str)) && k.glB x && decide (x ∈ k.frees) && nStar y && agE k a y
    | _, _ => false)
  | .zip a b, tg, e => (match tg, e with
    | .Tuple _ _ _, .Call (.Name x _) [y, z] [] _ => decide (x = ("zip" : Str)) && k.glB x && decide (x ∈ k.frees) && nStar y && nStar z && agE k a y && agE k b z
    | _, _ => false)
end
/-! ### the context -/
structure XOk (X : Cx) (k : Ck) (C : Cfg) : Prop where
  N : X.N = k.N
  nd : X.N.Nodup
  sc : X.env.scope = k.sc
  kind : k.sc.kind = .function
  fn : ∀ x, k.fnb x = true → X.fn x = true
  calm : X.calm = true
  hu : X.A.units + 65 < cLine
  free : ∀ x ∈ k.frees, X.mg x = none
  gl : ∀ x d, C.gl x = some d → ∃ v u, X.mg x = some u ∧ RelV v u ∧ ∀ ω μ H, DV X.K ω μ H d v
  gd : ∀ x kvs, C.gd x = some kvs → ∃ ad, X.mg x = some (.ref ad) ∧ ∀ s d, kvs.lookup s = some d → ∃ v, KDct X.K X.w ad s v ∧ ∀ ω μ H, DV X.K ω μ H d v
  fns : ∀ f nm ps, k.fns[f]? = some (nm, ps) → ∃ (j : Nat) (a : Addr) (fd : FuncData), FnOk X.prog X.w X.K X.mg X.base CX0 j a fd ps (spD X.K ps.length (C.call f)) ∧ Room j X.A ∧ X.mg nm = some (.ref a) ∧ PySem.W.keepIn X.K (.ref a) = true ∧ Binds X.K fd ps [] ∧
    ∀ ks js, (f, ks, js) ∈ k.kws → KB0 X.K fd ps ks js
section
variable {X : Cx} {k : Ck} {C : Cfg}
theorem XOk.blk (x : XOk X k C) {scope : Scope} (hk : scope.kind = .function) (s : Shared) (H : Hp) (Ca : Addr) (cl : List (Str × Addr)) (fp : List Addr) : XOk (X.blk s H scope (compEnvC scope cl Ca X.env) fp) (k.blk scope) C :=
  ⟨x.N, x.nd, by show relS scope X.env.scope = relS scope k.sc; rw [x.sc], hk, fun _ h => h, x.calm, x.hu, x.free, x.gl, x.gd, x.fns⟩
theorem XOk.vis (x : XOk X k C) {n : Str} (h : k.visB n = true) : Vis X.env.scope n := by
  unfold Ck.visB at h
  unfold Vis
  rw [x.sc]
  split at h <;> simp_all
theorem XOk.loc (x : XOk X k C) {n : Str} (h : k.locB n = true) : L2.Loc X.env.scope n := by
  unfold Ck.locB at h
  unfold L2.Loc
  rw [x.sc]
  split at h <;> simp_all
theorem XOk.glo (x : XOk X k C) {n : Str} (h : k.glB n = true) : Gl X n ∧ (n == ("__debug__" : Str)) = false := by
  unfold Ck.glB at h
  split at h
  · rename_i e
    refine ⟨?_, by simpa using h⟩
    show X.env.scope.names.lookup n = _
    rw [x.sc]; exact e
  · cases h
theorem own_snd (is : List Nat) : (own k is).map (·.2) = is := by simp [own, Function.comp_def]
end
end Ev
set_option Elab.async false
set_option linter.all false
set_option maxRecDepth 100000
set_option maxHeartbeats 4000000
/-! What the check is worth: expressions. -/
namespace Ev
open PySem PySem.Spec PyProof.Rows L2
section
variable {C : Cfg}
theorem pt_of {X : Cx} {m : MD} {e : Expr} (he : PE X e (tD X.K m)) (hn : nTest e = true) : PT X e (tT X.K m) := (pt_val he (test_of hn)).wk fun σ H Q h => tT_of h
theorem as_stars {e : Expr} {es : List Expr} {env : PySem.Env} (h : nStar e = true) : (assignEach (e :: es) env).map (·.2) = assign e env :: (assignEach es env).map (·.2) := by
  cases e <;> first | rfl | simp [nStar] at h
theorem agGs_facts {k : Ck} {env : PySem.Env} : ∀ {gs : List G} {es : List Expr}, agGs k gs es = true → (assignEach es env).length = gs.length ∧ (assignEach es env).findIdx? (·.1) = none
  | [], [], _ => ⟨rfl, rfl⟩
  | [], _ :: _, h => by simp [agGs] at h
  | _ :: _, [], h => by simp [agGs] at h
  | g :: gs, e :: es, h => by
    simp only [agGs, Bool.and_eq_true] at h
    obtain ⟨i1, i2⟩ := agGs_facts (env := env) h.2
    have q : assignEach (e :: es) env = (false, assign e env) :: assignEach es env := by
      have := h.1.1
      cases e <;> first | rfl | simp [nStar] at this
    rw [q]
    refine ⟨by simp [i1], ?_⟩
    rw [List.findIdx?_cons, i2]
    rfl
mutual
theorem G_ok {X : Cx} {k : Ck} (x : XOk X k C) : ∀ (g : G) (e : Expr), agG k g e = true → PG X e (tG X.K (evG g) (G.ixs g))
  | .name i, e, h => by
    unfold agG at h
    split at h
    · rename_i n p
      simp only [Bool.and_eq_true, decide_eq_true_eq, Bool.or_eq_true, beq_iff_eq] at h
      obtain ⟨⟨h1, h2⟩, h3⟩ := h
      exact g_name x.nd (by rw [x.N]; exact h1) (x.loc h2) (h3.imp (x.fn n) fun z => by rw [x.sc]; exact z)
    · cases h
  | .tup gs, e, h => by
    unfold agG at h
    split at h
    · rename_i es kk p
      obtain ⟨a1, a2⟩ := agGs_facts (env := X.env) h
      exact g_tup x.calm (Gs_ok x gs es h) a1 a2
    · cases h
theorem Gs_ok {X : Cx} {k : Ck} (x : XOk X k C) : ∀ (gs : List G) (es : List Expr), agGs k gs es = true → PGs X es (tGs X.K (evGs gs) (Gs.ixs gs))
  | [], [], _ => gs_nil
  | [], _ :: _, h => by simp [agGs] at h
  | _ :: _, [], h => by simp [agGs] at h
  | g :: gs, e :: es, h => by
    simp only [agGs, Bool.and_eq_true] at h
    exact gs_cons (G_ok x g e h.1.2) (Gs_ok x gs es h.2) (as_stars h.1.1)
end
theorem agEs_len {k : Ck} : ∀ {es : Es} {xs : List Expr}, agEs k es xs = true → xs.length = es.len ∧ xs.all nStar = true
  | .nil, [], _ => ⟨rfl, rfl⟩
  | .nil, _ :: _, h => by simp [agEs] at h
  | .cons _ _, [], h => by simp [agEs] at h
  | .cons e es, x :: xs, h => by
    simp only [agEs, Bool.and_eq_true] at h
    obtain ⟨i1, i2⟩ := agEs_len (es := es) h.2
    exact ⟨by simp [Es.len, i1], by rw [List.all_cons, h.1.1, i2] <;> rfl⟩
/-- what is said of an expression -/
structure EOk (X : Cx) (C : Cfg) (e : E) (ast : Expr) : Prop where
  pe : PE X ast (tD X.K (evE C e))
  pt : nIf ast = true → PT X ast (tT X.K (evE C e))
  pw : isB ast = true → PW X ast (tT X.K (evE C e))
structure EsOk (X : Cx) (C : Cfg) (es : Es) (xs : List Expr) : Prop where
  pa : PA X xs (tA X.K (evEs C es))
  pk : ∀ kws : List Keyword, kws.map (·.value) = xs → PK X kws (tA X.K (evEs C es))
  pp : ∀ (ks : List Str) (keys : List (Option Expr)) (pos : Pos), keysOk ks keys = true → keys.length = xs.length → PPs X pos keys xs (trs X.K C ks es)
theorem EOk.plain {X : Cx} {e : E} {ast : Expr} (h : PE X ast (tD X.K (evE C e))) (hn : nTest ast = true) (hb : isB ast = false) : EOk X C e ast := ⟨h, fun _ => pt_of h hn, fun z => by rw [hb] at z; cases z⟩
theorem tC_wk {K : PySem.W.Frag} {e : Expr} {X : Cx} {t : TE} (h : ∀ σ H Q, ¬ t σ H Q) : PE X e t := ⟨fun _ _ _ _ _ _ q => (h _ _ _ q).elim⟩
theorem noGl {K : PySem.W.Frag} {x : Str} (h : C.gl x = none) : ∀ σ H Q, ¬ tD K (evE C (.gl x)) σ H Q := fun σ H Q ⟨ω, μ, δ, st, d, st', R, e, q⟩ => by
  simp [evE, h] at e
theorem noGd {K : PySem.W.Frag} {x : Str} {i : E} (h : C.gd x = none) : ∀ σ H Q, ¬ tD K (evE C (.gdx x i)) σ H Q := fun σ H Q ⟨ω, μ, δ, st, d, st', R, e, q⟩ => by
  simp only [evE, h] at e
  obtain ⟨⟨y, st1⟩, e1, e2⟩ := Option.bind_eq_some_iff.mp e
  cases y <;> simp at e2
theorem keysOk_all : ∀ {ks : List Str} {keys : List (Option Expr)}, keysOk ks keys = true → keys.all (·.isSome) = true
  | [], [], _ => rfl
  | [], _ :: _, h => by simp [keysOk] at h
  | _ :: _, [], h => by simp [keysOk] at h
  | k :: ks, e :: es, h => by
    unfold keysOk at h
    split at h
    · rename_i h1 h2
      cases h2
    · rename_i h1 h2
      simp only [Bool.and_eq_true] at h
      obtain ⟨rfl, rfl⟩ := List.cons.inj h1
      obtain ⟨rfl, rfl⟩ := List.cons.inj h2
      rw [List.all_cons, keysOk_all h.2]
      rfl
    · cases h
theorem isi_str : Str.ofString "isinstance" = ("isinstance" : Str) := rfl
mutual
theorem E_ok : ∀ (e : E) (X : Cx) (k : Ck) (ast : Expr), XOk X k C → agE k e ast = true → EOk X C e ast
  | .non, X, k, ast, x, h => by
    unfold agE at h
    split at h
    · exact .plain h_non rfl rfl
    · cases h
  | .bl b, X, k, ast, x, h => by
    unfold agE at h
    split at h
    · rename_i v _ _
      obtain rfl : v = b := eq_of_beq h
      exact .plain h_bl rfl rfl
    · cases h
  | .int b, X, k, ast, x, h => by
    unfold agE at h
    split at h
    · rename_i v _ _
      obtain rfl : v = b := eq_of_beq h
      exact .plain h_int rfl rfl
    · cases h
  | .str b, X, k, ast, x, h => by
    unfold agE at h
    split at h
    · rename_i v _ _
      obtain rfl : v = b := of_decide_eq_true h
      exact .plain h_str rfl rfl
    · cases h
  | .var i, X, k, ast, x, h => by
    unfold agE at h
    split at h
    · simp only [Bool.and_eq_true, decide_eq_true_eq, Bool.not_eq_true'] at h
      obtain ⟨⟨⟨h1, h2⟩, h3⟩, h4⟩ := h
      exact .plain (h_var (by rw [x.N]; exact h1) (x.vis h2) h3 h4) rfl rfl
    · cases h
  | .gl y, X, k, ast, x, h => by
    unfold agE at h
    split at h
    · rename_i n p
      simp only [Bool.and_eq_true, decide_eq_true_eq] at h
      obtain ⟨rfl, h2⟩ := h
      obtain ⟨g1, g2⟩ := x.glo h2
      refine .plain ?_ rfl rfl
      cases hc : C.gl n with
      | none => exact tC_wk (K := X.K) (noGl hc)
      | some d =>
        obtain ⟨v, u, m1, m2, m3⟩ := x.gl n d hc
        exact h_gl g1 m1 m2 g2 hc m3
    · cases h
  | .bin o a b, X, k, ast, x, h => by
    unfold agE at h
    split at h
    · simp only [Bool.and_eq_true, decide_eq_true_eq] at h
      obtain ⟨⟨rfl, h2⟩, h3⟩ := h
      exact .plain (h_bin o (E_ok a X k _ x h2).pe (E_ok b X k _ x h3).pe) rfl rfl
    · cases h
  | .cmp o a b, X, k, ast, x, h => by
    unfold agE at h
    split at h
    · simp only [Bool.and_eq_true, decide_eq_true_eq] at h
      obtain ⟨⟨⟨rfl, h2⟩, h3⟩, h4⟩ := h
      have ea := (E_ok a X k _ x h3).pe
      have eb := (E_ok b X k _ x h4).pe
      exact ⟨h_cmp x.hu o ea eb (behind_of h2), fun _ => t_cmp x.hu o ea eb (behind_of h2), (fun z => by cases z)⟩
    · cases h
  | .chain o o' a b c, X, k, ast, x, h => by
    unfold agE at h
    split at h
    · simp only [Bool.and_eq_true, decide_eq_true_eq] at h
      obtain ⟨⟨⟨⟨⟨rfl, rfl⟩, h2⟩, h3⟩, h4⟩, h5⟩ := h
      have ea := (E_ok a X k _ x h3).pe
      have eb := (E_ok b X k _ x h4).pe
      have ec := (E_ok c X k _ x h5).pe
      exact ⟨h_chain x.hu o o' ea eb ec (last_of h2), fun _ => t_chain x.hu o o' ea eb ec (last_of h2), (fun z => by cases z)⟩
    · cases h
  | .neg a, X, k, ast, x, h => by
    unfold agE at h
    split at h
    · exact .plain (h_neg (E_ok a X k _ x h).pe) rfl rfl
    · cases h
  | .not a, X, k, ast, x, h => by
    unfold agE at h
    split at h
    · simp only [Bool.and_eq_true] at h
      have ea := E_ok a X k _ x h.2
      exact ⟨h_not ea.pe, fun _ => t_not (ea.pt h.1), (fun z => by cases z)⟩
    · cases h
  | .and a b, X, k, ast, x, h => by
    unfold agE at h
    split at h
    · simp only [Bool.and_eq_true] at h
      obtain ⟨⟨⟨h1, h2⟩, h3⟩, h4⟩ := h
      have ea := E_ok a X k _ x h3
      have eb := E_ok b X k _ x h4
      have w := t_and (pos := ‹_›) (rest := []) (ea.pt h1) (pw_and1 (eb.pt h2))
      exact ⟨h_and (rest := []) ea.pe (pe_one eb.pe), fun _ => w.pt, fun _ => w⟩
    · simp only [Bool.and_eq_true] at h
      obtain ⟨⟨h1, h2⟩, h3⟩ := h
      have ea := E_ok a X k _ x h2
      have eb := E_ok b X k _ x h3
      have w := t_and (pos := ‹_›) (ea.pt h1) (eb.pw rfl)
      exact ⟨h_and ea.pe eb.pe, fun _ => w.pt, fun _ => w⟩
    · cases h
  | .or a b, X, k, ast, x, h => by
    unfold agE at h
    split at h
    · simp only [Bool.and_eq_true] at h
      obtain ⟨⟨⟨h1, h2⟩, h3⟩, h4⟩ := h
      have ea := E_ok a X k _ x h3
      have eb := E_ok b X k _ x h4
      have w := t_or (pos := ‹_›) (rest := []) (ea.pt h1) (pw_or1 (eb.pt h2))
      exact ⟨h_or (rest := []) ea.pe (pe_one eb.pe), fun _ => w.pt, fun _ => w⟩
    · simp only [Bool.and_eq_true] at h
      obtain ⟨⟨h1, h2⟩, h3⟩ := h
      have ea := E_ok a X k _ x h2
      have eb := E_ok b X k _ x h3
      have w := t_or (pos := ‹_›) (ea.pt h1) (eb.pw rfl)
      exact ⟨h_or ea.pe eb.pe, fun _ => w.pt, fun _ => w⟩
    · cases h
  | .ite c a b, X, k, ast, x, h => by
    unfold agE at h
    split at h
    · simp only [Bool.and_eq_true] at h
      obtain ⟨⟨⟨h1, h2⟩, h3⟩, h4⟩ := h
      exact ⟨h_ite ((E_ok c X k _ x h2).pt h1) (E_ok a X k _ x h3).pe (E_ok b X k _ x h4).pe, (fun z => by cases z), (fun z => by cases z)⟩
    · cases h
  | .tup es, X, k, ast, x, h => by
    unfold agE at h
    split at h
    · simp only [Bool.and_eq_true, decide_eq_true_eq] at h
      exact .plain (h_tup (Es_ok es X k _ x h.2).pa h.1) rfl rfl
    · cases h
  | .lst m es, X, k, ast, x, h => by
    unfold agE at h
    split at h
    · exact .plain (h_lst (Es_ok es X k _ x h).pa) rfl rfl
    · cases h
  | .dct ks es, X, k, ast, x, h => by
    unfold agE at h
    split at h
    · simp only [Bool.and_eq_true, decide_eq_true_eq] at h
      obtain ⟨⟨⟨⟨⟨h1, h2⟩, h3⟩, h4⟩, h5⟩, h6⟩ := h
      exact .plain (h_dct ((Es_ok es X k _ x h6).pp ks _ _ h1 h2) (keysOk_all h1) h2 (fun z => by rw [z] at h4; simp at h4) h3 h5) rfl rfl
    · cases h
  | .call f es, X, k, ast, x, h => by
    unfold agE at h
    split at h
    · rename_i n p a as cpos
      simp only [Bool.and_eq_true] at h
      obtain ⟨⟨h1, h2⟩, h3⟩ := h
      split at h3
      · rename_i nm ps hf
        simp only [Bool.and_eq_true, decide_eq_true_eq] at h3
        obtain ⟨rfl, h5⟩ := h3
        obtain ⟨g1, g2⟩ := x.glo h1
        obtain ⟨j, ad, fd, F, hr, hm, hk, hb, _⟩ := x.fns f _ ps hf
        exact .plain (h_call F hr g1 hm hk hb (Es_ok es X k _ x h2).pa h5 (agEs_len h2).2 g2) rfl rfl
      · cases h3
    · cases h
  | .callK f js es, X, k, ast, x, h => by
    unfold agE at h
    split at h
    · rename_i n p kws cpos
      simp only [Bool.and_eq_true] at h
      obtain ⟨⟨h1, h2⟩, h3⟩ := h
      split at h3
      · rename_i nm ps hf
        simp only [Bool.and_eq_true, decide_eq_true_eq, List.all_eq_true, List.any_eq_true] at h3
        obtain ⟨⟨⟨⟨rfl, h5⟩, h6⟩, h7⟩, q, hq, ⟨q1, q2⟩, q3⟩ := h3
        obtain ⟨g1, g2⟩ := x.glo h1
        obtain ⟨j, ad, fd, F, hr, hm, hk, hb, hkb⟩ := x.fns f _ ps hf
        have hq2 : (f, q.2.1, js) ∈ k.kws := by
          have : q = (f, q.2.1, js) := by rw [← q1, ← q3]
          rw [← this]; exact hq
        exact .plain (h_callK F hr g1 hm hk (hkb q.2.1 js hq2) ((Es_ok es X k _ x h2).pk _ rfl) h5 rfl h6 h7 q2 g2) rfl rfl
      · cases h3
    · cases h
  | .b1 m o a, X, k, ast, x, h => by
    unfold agE at h
    split at h
    · simp only [Bool.and_eq_true, decide_eq_true_eq] at h
      obtain ⟨⟨⟨⟨rfl, h1⟩, h2⟩, h3⟩, h4⟩ := h
      exact .plain (h_b1 x.calm m o (x.glo h1).1 (x.free _ h2) (E_ok a X k _ x h4).pe h3) rfl rfl
    · cases h
  | .b2 o a b, X, k, ast, x, h => by
    unfold agE at h
    split at h
    · simp only [Bool.and_eq_true, decide_eq_true_eq] at h
      obtain ⟨⟨⟨⟨⟨⟨rfl, h1⟩, h2⟩, h3⟩, h4⟩, h5⟩, h6⟩ := h
      exact .plain (h_b2 x.calm o (x.glo h1).1 (x.free _ h2) (E_ok a X k _ x h5).pe (E_ok b X k _ x h6).pe h3 h4) rfl rfl
    · cases h
  | .trng m t a, X, k, ast, x, h => by
    unfold agE at h
    split at h
    · simp only [Bool.and_eq_true, decide_eq_true_eq] at h
      obtain ⟨⟨⟨⟨⟨⟨⟨rfl, h1⟩, h2⟩, rfl⟩, h3⟩, h4⟩, h5⟩, h6⟩ := h
      exact .plain (h_trng x.calm m t (x.glo h3).1 (x.free _ h4) (x.glo h1).1 (x.free _ h2) (E_ok a X k _ x h6).pe h5) rfl rfl
    · cases h
  | .isi a t, X, k, ast, x, h => by
    unfold agE at h
    split at h
    · simp only [Bool.and_eq_true, decide_eq_true_eq] at h
      obtain ⟨⟨⟨⟨⟨⟨⟨rfl, h1⟩, h2⟩, rfl⟩, h3⟩, h4⟩, h5⟩, h6⟩ := h
      exact .plain (h_isi t (x.glo h1).1 (x.free _ h2) (x.glo h3).1 (x.free _ h4) (E_ok a X k _ x h6).pe h5) rfl rfl
    · cases h
  | .ix a i, X, k, ast, x, h => by
    unfold agE at h
    split at h
    · simp only [Bool.and_eq_true] at h
      obtain ⟨⟨h1, h2⟩, h3⟩ := h
      exact .plain (h_ix (E_ok a X k _ x h2).pe (E_ok i X k _ x h3).pe h1) rfl rfl
    · cases h
  | .gdx n i, X, k, ast, x, h => by
    unfold agE at h
    split at h
    · rename_i y p sl p2
      simp only [Bool.and_eq_true, decide_eq_true_eq] at h
      obtain ⟨⟨⟨rfl, h1⟩, h2⟩, h3⟩ := h
      obtain ⟨g1, g2⟩ := x.glo h1
      refine .plain ?_ rfl rfl
      cases hc : C.gd y with
      | none => exact tC_wk (K := X.K) (noGd hc)
      | some kvs =>
        obtain ⟨ad, m1, m2⟩ := x.gd y kvs hc
        exact h_gdx g1 m1 g2 hc m2 (E_ok i X k _ x h3).pe h2
    · cases h
  | .dget a s, X, k, ast, x, h => by
    unfold agE at h
    split at h
    · simp only [Bool.and_eq_true, decide_eq_true_eq] at h
      obtain ⟨rfl, h1⟩ := h
      exact .plain (h_dget x.hu (E_ok a X k _ x h1).pe) rfl rfl
    · cases h
  | .sl m a lo hi, X, k, ast, x, h => by
    unfold agE at h
    split at h
    · rename_i y l u p p2
      simp only [Bool.and_eq_true] at h
      obtain ⟨⟨h1, h2⟩, h3⟩ := h
      have hl : PO X l (tO X.K lo (evE C lo)) := by
        cases l with
        | none =>
          have z : lo = .skip := by cases lo <;> simp [E.isSkip] at h2 <;> rfl
          rw [z]; exact o_none
        | some y =>
          simp only [Bool.and_eq_true, Bool.not_eq_true'] at h2
          exact o_some (E_ok lo X k _ x h2.2).pe h2.1
      have hu : PO X u (tO X.K hi (evE C hi)) := by
        cases u with
        | none =>
          have z : hi = .skip := by cases hi <;> simp [E.isSkip] at h3 <;> rfl
          rw [z]; exact o_none
        | some y =>
          simp only [Bool.and_eq_true, Bool.not_eq_true'] at h3
          exact o_some (E_ok hi X k _ x h3.2).pe h3.1
      exact .plain (h_sl (E_ok a X k _ x h1).pe hl hu) rfl rfl
    · cases h
  | .rev m a, X, k, ast, x, h => by
    unfold agE at h
    split at h
    · exact .plain (h_rev (E_ok a X k _ x h).pe) rfl rfl
    · cases h
  | .comp m ow g it c el, X, k, ast, x, h => by
    unfold agE at h
    split at h
    · rename_i elt tg iter ifs asy scope pos
      simp only [Bool.and_eq_true, decide_eq_true_eq, List.all_eq_true] at h
      obtain ⟨⟨⟨⟨⟨⟨⟨rfl, h1⟩, h2⟩, h3⟩, h4⟩, h5⟩, h6⟩, h7⟩ := h
      have ok := blkOk_by h2
      have ok2 : BlkOk X.N X.env.scope scope (own k ow) := by rw [x.N, x.sc]; exact ok
      have xb := fun s H Ca cl fp => x.blk ok.kind s H Ca cl fp
      have ht : ∀ (s : Shared) (H : Hp) (Ca : Addr) (cl : List (Str × Addr)) (fp : List Addr), PTs (X.blk s H scope (compEnvC scope cl Ca X.env) fp) ifs (tT X.K (evE C c)) := by
        intro s H Ca cl fp
        split at h7
        · split at h7
          · refine ⟨fun pins s' σ H' Q I q => pts_nil.run pins s' σ H' Q I ?_⟩
            obtain ⟨ω, μ, δ, st, b, st', R, e, q⟩ := q
            simp only [evE, Option.some.injEq, Prod.mk.injEq, D.bl.injEq] at e
            obtain ⟨rfl, rfl⟩ := e
            exact q μ _ .refl R.rs
          · cases h7
        · simp only [Bool.and_eq_true] at h7
          exact pts_one ((E_ok c _ _ _ (xb s H Ca cl fp) h7.2).pt h7.1)
        · cases h7
      have hx := pe_lc (pos := pos) (g := tG X.K (evG g) (G.ixs g)) (te := tD X.K (evE C el)) (tt := tT X.K (evE C c)) (wi := tI X.K (evI C it)) x.calm x.nd (I_ok it X k tg iter x h4) ok2 (fun s H Ca cl fp => G_ok (xb s H Ca cl fp) g tg h5) ht (fun s H Ca cl fp => (E_ok el _ _ _ (xb s H Ca cl fp) h6).pe) (fun y => folded_of h1)
      rw [own_snd] at hx
      exact .plain (hx.wk fun σ H Q h => h_compR m ow g it c el h3 σ H Q h) rfl rfl
    · cases h
  | .comp2 m ow vs g it g1 it1 c el, X, k, ast, x, h => by
    unfold agE at h
    split at h
    · rename_i elt tg iter ifs asy tg1 iter1 ifs1 asy1 scope pos
      simp only [Bool.and_eq_true, decide_eq_true_eq, List.all_eq_true] at h
      obtain ⟨⟨⟨⟨⟨⟨⟨⟨⟨⟨⟨⟨⟨⟨rfl, rfl⟩, h1⟩, h1'⟩, h2⟩, h3⟩, h3'⟩, h3''⟩, h4⟩, h5⟩, h4'⟩, h5'⟩, h6⟩, h8⟩, h7⟩ := h
      obtain rfl : ifs = [] := List.isEmpty_iff.mp h8
      have ok := blkOk_by h2
      have ok2 : BlkOk X.N X.env.scope scope (own k ow) := by rw [x.N, x.sc]; exact ok
      have xb := fun s H Ca cl fp => x.blk ok.kind s H Ca cl fp
      have ht : ∀ (s : Shared) (H : Hp) (Ca : Addr) (cl : List (Str × Addr)) (fp : List Addr), PTs (X.blk s H scope (compEnvC scope cl Ca X.env) fp) ifs1 (tT X.K (evE C c)) := by
        intro s H Ca cl fp
        split at h7
        · split at h7
          · refine ⟨fun pins s' σ H' Q I q => pts_nil.run pins s' σ H' Q I ?_⟩
            obtain ⟨ω, μ, δ, st, b, st', R, e, q⟩ := q
            simp only [evE, Option.some.injEq, Prod.mk.injEq, D.bl.injEq] at e
            obtain ⟨rfl, rfl⟩ := e
            exact q μ _ .refl R.rs
          · cases h7
        · simp only [Bool.and_eq_true] at h7
          exact pts_one ((E_ok c _ _ _ (xb s H Ca cl fp) h7.2).pt h7.1)
        · cases h7
      have hx := pe_lc2 (pos := pos) (vs1 := vs) (g := tG X.K (evG g) (G.ixs g)) (g1 := tG X.K (evG g1) (G.ixs g1)) (te := tD X.K (evE C el)) (tt := tYes) (tt1 := tT X.K (evE C c)) (wi := tI X.K (evI C it)) (wi1 := tI X.K (evI C it1)) x.calm x.nd (I_ok it X k tg iter x h4) ok2 (by rw [own_snd]; exact h3'') (fun s H Ca cl fp => G_ok (xb s H Ca cl fp) g tg h5) (fun s H Ca cl fp => pts_nil) (fun s H Ca cl fp => I_ok it1 _ _ tg1 iter1 (xb s H Ca cl fp) h4') (fun s H Ca cl fp => G_ok (xb s H Ca cl fp) g1 tg1 h5') ht (fun s H Ca cl fp => (E_ok el _ _ _ (xb s H Ca cl fp) h6).pe) (fun y => folded_of h1) (fun _ y => folded_of h1')
      rw [own_snd] at hx
      exact .plain (hx.wk fun σ H Q h => h_comp2R m ow vs g it g1 it1 c el h3 h3' σ H Q h) rfl rfl
    · cases h
  | .meth o a es, X, k, ast, x, h => by
    unfold agE at h
    split at h
    · rename_i y nm apos xs cpos
      simp only [Bool.and_eq_true, decide_eq_true_eq] at h
      obtain ⟨⟨⟨⟨⟨rfl, h1⟩, h2⟩, h3⟩, h4⟩, h5⟩ := h
      split at h5
      · split at h5
        · exact .plain (h_pop (E_ok a X k _ x h3).pe h1 h2) rfl rfl
        · cases h5
      · simp only [Bool.and_eq_true, decide_eq_true_eq] at h5
        exact .plain (h_meth h5.1 (E_ok a X k _ x h3).pe (Es_ok es X k _ x h4).pa h1 (agEs_len h4).2 h5.2 h2) rfl rfl
    · cases h
  | .iteT c a b, X, k, ast, x, h => by
    unfold agE at h
    split at h
    · simp only [Bool.and_eq_true] at h
      obtain ⟨⟨⟨h1, h2⟩, h3⟩, h4⟩ := h
      exact ⟨h_iteT (t_tru (E_ok c X k _ x h2).pe (test_of h1)) (E_ok a X k _ x h3).pe (E_ok b X k _ x h4).pe, (fun z => by cases z), fun z => by cases z⟩
    · cases h
  | .skip, X, k, ast, x, h => by
    unfold agE at h
    cases h
theorem Es_ok : ∀ (es : Es) (X : Cx) (k : Ck) (xs : List Expr), XOk X k C → agEs k es xs = true → EsOk X C es xs
  | .nil, X, k, xs, x, h => by
    unfold agEs at h
    split at h
    · refine ⟨a_nil, fun kws hk => ?_, fun ks keys pos hk hl => ?_⟩
      · cases kws with
        | nil => exact k_nil
        | cons _ _ => cases hk
      · cases keys with
        | nil => cases ks <;> exact pps_nil
        | cons _ _ => simp at hl
    · cases h
  | .cons e es, X, k, xs, x, h => by
    unfold agEs at h
    split at h
    · rename_i y ys
      simp only [Bool.and_eq_true] at h
      obtain ⟨⟨h1, h2⟩, h3⟩ := h
      have he := E_ok e X k y x h2
      have hes := Es_ok es X k ys x h3
      refine ⟨a_cons he.pe hes.pa (star_cons h1), fun kws hk => ?_, fun ks keys pos hk hl => ?_⟩
      · cases kws with
        | nil => cases hk
        | cons q kws =>
          obtain ⟨qn, qv, qp⟩ := q
          rw [List.map_cons] at hk
          obtain ⟨rfl, hk2⟩ := List.cons.inj hk
          exact k_cons he.pe (hes.pk kws hk2)
      · unfold keysOk at hk
        split at hk
        · simp at hl
        · simp only [Bool.and_eq_true, decide_eq_true_eq] at hk
          obtain ⟨rfl, hk2⟩ := hk
          exact pps_cons pe_str he.pe (hes.pp _ _ pos hk2 (by simpa using hl))
        · cases hk
    · cases h
theorem I_ok : ∀ (it : It) (X : Cx) (k : Ck) (tg iter : Expr), XOk X k C → agI k it tg iter = true → PI X tg iter (tI X.K (evI C it))
  | .seq a, X, k, tg, iter, x, h => by
    unfold agI at h
    exact i_seq (E_ok a X k _ x h).pe
  | .rng1 a, X, k, tg, iter, x, h => by
    unfold agI at h
    split at h
    · simp only [Bool.and_eq_true, decide_eq_true_eq] at h
      obtain ⟨⟨⟨⟨rfl, h1⟩, h2⟩, h3⟩, h4⟩ := h
      exact i_rng1 (x.glo h1).1 (x.free _ h2) (E_ok a X k _ x h4).pe (star_cons h3)
    · cases h
  | .rng2 a b, X, k, tg, iter, x, h => by
    unfold agI at h
    split at h
    · simp only [Bool.and_eq_true, decide_eq_true_eq] at h
      obtain ⟨⟨⟨⟨⟨⟨rfl, h1⟩, h2⟩, h3⟩, h4⟩, h5⟩, h6⟩ := h
      exact i_rng2 (x.glo h1).1 (x.free _ h2) (E_ok a X k _ x h5).pe (E_ok b X k _ x h6).pe (star_cons h3) (star_cons h4)
    · cases h
  | .enm a, X, k, tg, iter, x, h => by
    unfold agI at h
    split at h
    · simp only [Bool.and_eq_true, decide_eq_true_eq] at h
      obtain ⟨⟨⟨⟨rfl, h1⟩, h2⟩, h3⟩, h4⟩ := h
      exact i_enm (x.glo h1).1 (x.free _ h2) (E_ok a X k _ x h4).pe (star_cons h3)
    · cases h
  | .zip a b, X, k, tg, iter, x, h => by
    unfold agI at h
    split at h
    · simp only [Bool.and_eq_true, decide_eq_true_eq] at h
      obtain ⟨⟨⟨⟨⟨⟨rfl, h1⟩, h2⟩, h3⟩, h4⟩, h5⟩, h6⟩ := h
      exact i_zip (x.glo h1).1 (x.free _ h2) (E_ok a X k _ x h5).pe (E_ok b X k _ x h6).pe (star_cons h3) (star_cons h4)
    · cases h
end
end
end Ev
set_option Elab.async false
set_option linter.all false
set_option maxRecDepth 100000
set_option maxHeartbeats 4000000
/-! What the check is worth: statements, defs. -/
namespace Ev
open PySem PySem.Spec PyProof.Rows L2
/-! ### the check -/
def swapNone (k : Ck) : Expr → Expr → Bool
  | .Tuple ts _ _, .Tuple vs _ _ => (match swapK ts vs k.sc with
    | some none => true
    | _ => false)
  | .List _ _, .Tuple _ _ _ => false
  | _, _ => true
def lcSwaps (k : Ck) (x : Str) (py : Pos) (scope : Scope) (pos : Pos) : Bool := (py.line == pos.line) && (k.sc.names.lookup x == some .local) && !(scope.names.any fun (n, kd) => n == x && (kd == .local || kd == .cell))
mutual
def agS (k : Ck) : S → Stmt → Bool
  | .set i e, s => (match s with
    | .Assign [.Name x py] v _ => decide (k.N[i]? = some x) && k.locB x && (k.fnb x || (k.sc.names.lookup x == some .local)) && agE k e v && (match v with
      | .ListComp _ _ scope pos => lcSwaps k x py scope pos
      | v => nComp v)
    | _ => false)
  | .asg g e, s => (match s with
    | .Assign [tg] v _ => nStar tg && nComp v && agG k g tg && agE k e v && swapNone k tg v
    | _ => false)
  | .par is es, s => (match s with
    | .Assign [.Tuple [.Name x px, .Name y py] kt pt] (.Tuple [a, b] k2 pt2) _ => (match is with
      | [i, j] => decide (k.N[i]? = some x) && decide (k.N[j]? = some y) && decide (i ≠ j) && (k.sc.names.lookup x == some .local) && (k.sc.names.lookup y == some .local) && agEs k es [a, b] && decide (swapK [.Name x px, .Name y py] [a, b] k.sc = some (some [x, y]))
      | _ => false)
    | .Assign [.Tuple [.Name x px, .Name y py, .Name z pz] kt pt] (.Tuple [a, b, c] k2 pt2) _ => (match is with
      | [i, j, l] => decide (k.N[i]? = some x) && decide (k.N[j]? = some y) && decide (k.N[l]? = some z) && decide (i ≠ j) && decide (i ≠ l) && decide (j ≠ l) && (k.sc.names.lookup x == some .local) && (k.sc.names.lookup y == some .local) && (k.sc.names.lookup z == some .local) && agEs k es [a, b, c] && decide (swapK [.Name x px, .Name y py, .Name z pz] [a, b, c] k.sc = some (some [x, y, z]))
      | _ => false)
    | _ => false)
  | .dput d y e, s => (match s with
    | .Assign [.Subscript x (.Constant (.str z) _ _) _] v _ => decide (z = y) && nComp v && agE k d x && agE k e v
    | _ => false)
  | .lput .., _ => false
  | .expr e, s => (match s with
    | .Expr v _ => nComp v && agE k e v
    | _ => false)
  | .ret e, s => (match s with
    | .Return (some v) _ => agE k e v
    | .Return none _ => (match e with
      | .non => true
      | _ => false)
    | _ => false)
  | .iff c a b, s => (match s with
    | .If t x y _ => nIf t && agE k c t && agSs k a x && agSs k b y
    | _ => false)
  | .for g it b, s => (match s with
    | .For tg iter body [] _ => nSet iter && agI k it tg iter && agG k g tg && agSs k b body
    | _ => false)
  | .while c b, s => (match s with
    | .While t body [] _ => nIf t && agE k c t && agSs k b body
    | _ => false)
  | .brk, s => (match s with
    | .Break _ => true
    | _ => false)
  | .pass, s => (match s with
    | .Pass _ => true
    | _ => false)
  | .never, _ => true
def agSs (k : Ck) : Ss → List Stmt → Bool
  | .nil, ss => (match ss with
    | [] => true
    | _ => false)
  | .cons s ss, ts => (match ts with
    | t :: ts => agS k s t && agSs k ss ts
    | [] => false)
end
section
variable {C : Cfg}
theorem XOk.kd {X : Cx} {k : Ck} (x : XOk X k C) : X.env.scope.kind = .function := by rw [x.sc]; exact x.kind
/-- name = [..] -/
theorem s_setC {X : Cx} {k : Ck} {i : Nat} {n : Str} {py spos pos : Pos} {elt : Expr} {gs : List Comprehension} {scope : Scope} {e : E} (x : XOk X k C) (hi : k.N[i]? = some n) (h : agE k e (.ListComp elt gs scope pos) = true) (hl : lcSwaps k n py scope pos = true) :
    PS X (.Assign [.Name n py] (.ListComp elt gs scope pos) spos) (tS X.K (evS C (.set i e))) := by
  unfold lcSwaps at hl
  simp only [Bool.and_eq_true, beq_iff_eq, Bool.not_eq_true'] at hl
  obtain ⟨⟨hl1, hl2⟩, hl3⟩ := hl
  have hy : X.env.scope.names.lookup n = some .local := by rw [x.sc]; exact hl2
  have hsw := fun gs => sw_true (elt := elt) (gs := gs) (scope := scope) (pos := pos) (py := py) (y := n) (l := spos.line) (env := X.env) x.kd hy (by simpa using hl1) hl3
  have hN : X.N[i]? = some n := by rw [x.N]; exact hi
  cases e with
  | comp m ow g it c el =>
    unfold agE at h
    split at h
    · rename_i elt' tg iter ifs asy scope' pos' heq
      cases heq
      simp only [Bool.and_eq_true, decide_eq_true_eq, List.all_eq_true] at h
      obtain ⟨⟨⟨⟨⟨⟨⟨rfl, h1⟩, h2⟩, h3⟩, h4⟩, h5⟩, h6⟩, h7⟩ := h
      have ok := blkOk_by h2
      have ok2 : BlkOk X.N X.env.scope scope (own k ow) := by rw [x.N, x.sc]; exact ok
      have xb := fun s H Ca cl fp => x.blk ok.kind s H Ca cl fp
      have ht : ∀ (s : Shared) (H : Hp) (Ca : Addr) (cl : List (Str × Addr)) (fp : List Addr), PTs (X.blk s H scope (compEnvC scope cl Ca X.env) fp) ifs (tT X.K (evE C c)) := by
        intro s H Ca cl fp
        split at h7
        · split at h7
          · refine ⟨fun pins s' σ H' Q I q => pts_nil.run pins s' σ H' Q I ?_⟩
            obtain ⟨ω, μ, δ, st, b, st', R, e, q⟩ := q
            simp only [evE, Option.some.injEq, Prod.mk.injEq, D.bl.injEq] at e
            obtain ⟨rfl, rfl⟩ := e
            exact q μ _ .refl R.rs
          · cases h7
        · simp only [Bool.and_eq_true] at h7
          exact pts_one ((E_ok c _ _ _ (xb s H Ca cl fp) h7.2).pt h7.1)
        · cases h7
      have hx := ps_setLc (py := py) (spos := spos) (pos := pos) (g := tG X.K (evG g) (G.ixs g)) (te := tD X.K (evE C el)) (tt := tT X.K (evE C c)) (wi := tI X.K (evI C it)) x.calm x.nd hN hy (hsw _) (I_ok it X k tg iter x h4) ok2 (fun s H Ca cl fp => G_ok (xb s H Ca cl fp) g tg h5) ht (fun s H Ca cl fp => (E_ok el _ _ _ (xb s H Ca cl fp) h6).pe) (fun y => folded_of h1)
      rw [own_snd] at hx
      exact hx.wk fun D σ H h => s_setR (fun σ H Q h => h_compR m ow g it c el h3 σ H Q h) D σ H h
    · cases h
  | comp2 m ow vs g it g1 it1 c el =>
    unfold agE at h
    split at h
    · rename_i elt' tg iter ifs asy tg1 iter1 ifs1 asy1 scope' pos' heq
      cases heq
      simp only [Bool.and_eq_true, decide_eq_true_eq, List.all_eq_true] at h
      obtain ⟨⟨⟨⟨⟨⟨⟨⟨⟨⟨⟨⟨⟨⟨rfl, rfl⟩, h1⟩, h1'⟩, h2⟩, h3⟩, h3'⟩, h3''⟩, h4⟩, h5⟩, h4'⟩, h5'⟩, h6⟩, h8⟩, h7⟩ := h
      obtain rfl : ifs = [] := List.isEmpty_iff.mp h8
      have ok := blkOk_by h2
      have ok2 : BlkOk X.N X.env.scope scope (own k ow) := by rw [x.N, x.sc]; exact ok
      have xb := fun s H Ca cl fp => x.blk ok.kind s H Ca cl fp
      have ht : ∀ (s : Shared) (H : Hp) (Ca : Addr) (cl : List (Str × Addr)) (fp : List Addr), PTs (X.blk s H scope (compEnvC scope cl Ca X.env) fp) ifs1 (tT X.K (evE C c)) := by
        intro s H Ca cl fp
        split at h7
        · split at h7
          · refine ⟨fun pins s' σ H' Q I q => pts_nil.run pins s' σ H' Q I ?_⟩
            obtain ⟨ω, μ, δ, st, b, st', R, e, q⟩ := q
            simp only [evE, Option.some.injEq, Prod.mk.injEq, D.bl.injEq] at e
            obtain ⟨rfl, rfl⟩ := e
            exact q μ _ .refl R.rs
          · cases h7
        · simp only [Bool.and_eq_true] at h7
          exact pts_one ((E_ok c _ _ _ (xb s H Ca cl fp) h7.2).pt h7.1)
        · cases h7
      have hx := ps_setLc2 (py := py) (spos := spos) (pos := pos) (vs1 := vs) (g := tG X.K (evG g) (G.ixs g)) (g1 := tG X.K (evG g1) (G.ixs g1)) (te := tD X.K (evE C el)) (tt := tYes) (tt1 := tT X.K (evE C c)) (wi := tI X.K (evI C it)) (wi1 := tI X.K (evI C it1)) x.calm x.nd hN hy (hsw _) (I_ok it X k tg iter x h4) ok2 (by rw [own_snd]; exact h3'') (fun s H Ca cl fp => G_ok (xb s H Ca cl fp) g tg h5) (fun s H Ca cl fp => pts_nil) (fun s H Ca cl fp => I_ok it1 _ _ tg1 iter1 (xb s H Ca cl fp) h4') (fun s H Ca cl fp => G_ok (xb s H Ca cl fp) g1 tg1 h5') ht (fun s H Ca cl fp => (E_ok el _ _ _ (xb s H Ca cl fp) h6).pe) (fun y => folded_of h1) (fun _ y => folded_of h1')
      rw [own_snd] at hx
      exact hx.wk fun D σ H h => s_setR (fun σ H Q h => h_comp2R m ow vs g it g1 it1 c el h3 h3' σ H Q h) D σ H h
    · cases h
  | _ => unfold agE at h; cases h
mutual
theorem S_ok {X : Cx} {k : Ck} (x : XOk X k C) (hp : PassesOwn (model X.prog X.w) X.A X.env X.xe) : ∀ (s : S) (t : Stmt), agS k s t = true → PS X t (tS X.K (evS C s))
  | .set i e, t, h => by
    unfold agS at h
    split at h
    · rename_i n py v spos
      simp only [Bool.and_eq_true, decide_eq_true_eq, Bool.or_eq_true, beq_iff_eq] at h
      obtain ⟨⟨⟨⟨h1, h2⟩, h3⟩, h4⟩, h5⟩ := h
      split at h5
      · exact s_setC x h1 h4 h5
      · exact s_set x.nd (by rw [x.N]; exact h1) (x.loc h2) (E_ok e X k _ x h4).pe h5 (h3.imp (x.fn n) fun z => by rw [x.sc]; exact z)
    · cases h
  | .asg g e, t, h => by
    unfold agS at h
    split at h
    · rename_i tg v spos
      simp only [Bool.and_eq_true] at h
      obtain ⟨⟨⟨⟨h1, h2⟩, h3⟩, h4⟩, h5⟩ := h
      have hw : swappedStores [tg] v X.env = pure none := by
        unfold swapNone at h5
        split at h5
        · split at h5
          · rename_i hs
            exact swapped_eq x.kd (by rw [x.sc]; exact hs)
          · cases h5
        · cases h5
        · rename_i hn1 hn2
          refine swapped_not ?_
          split
          · exact (hn1 _ _ _ _ _ _ rfl rfl).elim
          · exact (hn2 _ _ _ _ _ rfl rfl).elim
          · rfl
      exact s_asg (E_ok e X k _ x h4).pe (G_ok x g tg h3) h2 hw h1
    · cases h
  | .par is es, t, h => by
    unfold agS at h
    split at h
    · split at h
      · simp only [Bool.and_eq_true, decide_eq_true_eq, beq_iff_eq] at h
        obtain ⟨⟨⟨⟨⟨⟨h1, h2⟩, h3⟩, h4⟩, h5⟩, h6⟩, h7⟩ := h
        exact s_par2 x.calm x.nd (by rw [x.N]; exact h1) (by rw [x.N]; exact h2) h3 (by rw [x.sc]; exact h4) (by rw [x.sc]; exact h5) (Es_ok es X k _ x h6).pa (swapped_eq x.kd (by rw [x.sc]; exact h7))
      · cases h
    · split at h
      · simp only [Bool.and_eq_true, decide_eq_true_eq, beq_iff_eq] at h
        obtain ⟨⟨⟨⟨⟨⟨⟨⟨⟨⟨h1, h2⟩, h3⟩, h4⟩, h5⟩, h6⟩, h7⟩, h8⟩, h9⟩, h10⟩, h11⟩ := h
        exact s_par3 x.calm x.nd (by rw [x.N]; exact h1) (by rw [x.N]; exact h2) (by rw [x.N]; exact h3) h4 h5 h6 (by rw [x.sc]; exact h7) (by rw [x.sc]; exact h8) (by rw [x.sc]; exact h9) (Es_ok es X k _ x h10).pa (swapped_eq x.kd (by rw [x.sc]; exact h11))
      · cases h
    · cases h
  | .dput d y e, t, h => by
    unfold agS at h
    split at h
    · simp only [Bool.and_eq_true, decide_eq_true_eq] at h
      obtain ⟨⟨⟨rfl, h1⟩, h2⟩, h3⟩ := h
      exact s_dput x.hu (E_ok d X k _ x h2).pe (E_ok e X k _ x h3).pe h1
    · cases h
  | .lput l i e, t, h => by
    unfold agS at h
    cases h
  | .expr e, t, h => by
    unfold agS at h
    split at h
    · simp only [Bool.and_eq_true] at h
      exact s_expr (E_ok e X k _ x h.2).pe h.1
    · cases h
  | .ret e, t, h => by
    unfold agS at h
    split at h
    · exact s_ret (E_ok e X k _ x h).pe
    · split at h
      · exact s_retN
      · cases h
    · cases h
  | .iff c a b, t, h => by
    unfold agS at h
    split at h
    · simp only [Bool.and_eq_true] at h
      obtain ⟨⟨⟨h1, h2⟩, h3⟩, h4⟩ := h
      exact s_iff ((E_ok c X k _ x h2).pt h1) (Ss_ok x hp a _ h3) (Ss_ok x hp b _ h4)
    · cases h
  | .for g it b, t, h => by
    unfold agS at h
    split at h
    · simp only [Bool.and_eq_true] at h
      obtain ⟨⟨⟨h1, h2⟩, h3⟩, h4⟩ := h
      exact s_for hp x.calm (I_ok it X k _ _ x h2) (G_ok x g _ h3) (Ss_ok x hp b _ h4) h1
    · cases h
  | .while c b, t, h => by
    unfold agS at h
    split at h
    · simp only [Bool.and_eq_true] at h
      obtain ⟨⟨h1, h2⟩, h3⟩ := h
      exact s_while hp ((E_ok c X k _ x h2).pt h1) (Ss_ok x hp b _ h3)
    · cases h
  | .brk, t, h => by
    unfold agS at h
    split at h
    · exact s_brk
    · cases h
  | .pass, t, h => by
    unfold agS at h
    split at h
    · exact s_pass
    · cases h
  | .never, t, h => s_never
theorem Ss_ok {X : Cx} {k : Ck} (x : XOk X k C) (hp : PassesOwn (model X.prog X.w) X.A X.env X.xe) : ∀ (ss : Ss) (ts : List Stmt), agSs k ss ts = true → PSs X ts (tS X.K (evSs C ss))
  | .nil, ts, h => by
    unfold agSs at h
    split at h
    · exact ss_nil
    · cases h
  | .cons s ss, ts, h => by
    unfold agSs at h
    split at h
    · simp only [Bool.and_eq_true] at h
      exact ss_cons (S_ok x hp s _ h.1) (Ss_ok x hp ss _ h.2)
    · cases h
end
end
end Ev
set_option Elab.async false
set_option linter.all false
set_option maxRecDepth 100000
set_option maxHeartbeats 4000000
/-! Calls: what a def leaves; every def keeps what the evaluator says. -/
namespace Ev
open PySem PySem.Spec PyProof.Rows L2
section
variable {K : PySem.W.Frag} {ω μ μ' : List Addr} {H H' : Hp} {st st' : Sto}
theorem not_pre {a : Addr} (hp : μ <+: μ') (h : a ∉ μ') : a ∉ μ := fun z => h (hp.subset z)
mutual
theorem DV.down (hp : μ <+: μ') : ∀ {d : D} {v : V}, DV K ω μ' H d v → D.bel μ.length d = true → DV K ω μ H d v
  | _, _, .non, _ => .non
  | _, _, .bl b, _ => .bl b
  | _, _, .int b, _ => .int b
  | _, _, .str b, _ => .str b
  | _, _, .tup (ds := ds) h l x, e => .tup (h.elim (fun z => .inl ⟨not_pre hp z.1, z.2⟩) .inr) l (DVs.down hp x (show D.bels μ.length ds = true from e))
  | _, _, .lst (ds := ds) h l x, e => .lst ⟨not_pre hp h.1, h.2⟩ l (DVs.down hp x (show D.bels μ.length ds = true from e))
  | _, _, .scr (ds := ds) h l x, e => .scr (h.elim (fun z => .inl ⟨not_pre hp z.1, z.2⟩) .inr) l (DVs.down hp x (show D.bels μ.length ds = true from e))
  | _, _, .loc (n := n) (a := a) h, e => .loc (by
    have hn : n < μ.length := of_decide_eq_true e
    obtain ⟨t, rfl⟩ := hp
    rwa [List.getElem?_append_left hn] at h)
theorem DVs.down (hp : μ <+: μ') : ∀ {ds : List D} {vs : List V}, DVs K ω μ' H ds vs → D.bels μ.length ds = true → DVs K ω μ H ds vs
  | _, _, .nil, _ => .nil
  | _, _, .cons (d := d) (ds := ds) h t, e => by
    have e2 : (D.bel μ.length d && D.bels μ.length ds) = true := e
    rw [Bool.and_eq_true] at e2
    exact .cons (DV.down hp h e2.1) (DVs.down hp t e2.2)
end
mutual
theorem DV.bel : ∀ {d : D} {v : V}, DV K ω μ H d v → D.bel μ.length d = true
  | _, _, .non => rfl
  | _, _, .bl b => rfl
  | _, _, .int b => rfl
  | _, _, .str b => rfl
  | _, _, .tup h l x => DVs.bel x
  | _, _, .lst h l x => DVs.bel x
  | _, _, .scr h l x => DVs.bel x
  | _, _, .loc h => decide_eq_true (List.getElem?_eq_some_iff.mp h).1
theorem DVs.bel : ∀ {ds : List D} {vs : List V}, DVs K ω μ H ds vs → D.bels μ.length ds = true
  | _, _, .nil => rfl
  | _, _, .cons (d := d) (ds := ds) h t => by
    show (D.bel μ.length d && D.bels μ.length ds) = true
    rw [DV.bel h, DVs.bel t] <;> rfl
end
theorem DKs.down (hp : μ <+: μ') : ∀ {ds : List (Key × D)} {vs : List (Key × V)}, DKs K ω μ' H ds vs → D.bels μ.length (ds.map (·.2)) = true → DKs K ω μ H ds vs
  | _, _, .nil, _ => .nil
  | _, _, .cons (d := d) (ds := ds) h t, e => by
    have e2 : (D.bel μ.length d && D.bels μ.length (ds.map (·.2))) = true := e
    rw [Bool.and_eq_true] at e2
    exact .cons (h.down hp e2.1) (DKs.down hp t e2.2)
theorem DKs.bel : ∀ {ds : List (Key × D)} {vs : List (Key × V)}, DKs K ω μ H ds vs → D.bels μ.length (ds.map (·.2)) = true
  | _, _, .nil => rfl
  | _, _, .cons (d := d) (ds := ds) h t => by
    show (D.bel μ.length d && D.bels μ.length (ds.map (·.2))) = true
    rw [h.bel, DKs.bel t] <;> rfl
theorem OV.down {a : Addr} {o : SO} (hp : μ <+: μ') (h : OV K ω μ' H a o) (e : SO.bel μ.length o = true) : OV K ω μ H a o := by
  cases o with
  | lst xs => obtain ⟨vs, h1, h2, h3⟩ := h; exact ⟨vs, h1, h2, h3.down hp e⟩
  | dct xs => obtain ⟨vs, h1, h2, h3⟩ := h; exact ⟨vs, h1, h2, h3.down hp e⟩
theorem OV.bel {a : Addr} {o : SO} (h : OV K ω μ H a o) : SO.bel μ.length o = true := by
  cases o with
  | lst xs => obtain ⟨vs, h1, h2, h3⟩ := h; exact h3.bel
  | dct xs => obtain ⟨vs, h1, h2, h3⟩ := h; exact h3.bel
theorem sosame_eq : ∀ (a b : SO), SO.same a b = true → a = b
  | .lst xs, .lst ys, h => by rw [sames_eq xs ys h]
  | .dct xs, .dct ys, h => by
    have h2 : (decide (xs.map (·.1) = ys.map (·.1)) && D.sames (xs.map (·.2)) (ys.map (·.2))) = true := h
    rw [Bool.and_eq_true, decide_eq_true_eq] at h2
    have e2 := sames_eq _ _ h2.2
    have : ∀ (xs ys : List (Key × D)), xs.map (·.1) = ys.map (·.1) → xs.map (·.2) = ys.map (·.2) → xs = ys := by
      intro xs
      induction xs with
      | nil => intro ys h _; cases ys with | nil => rfl | cons _ _ => cases h
      | cons x xs ih =>
        intro ys h1 h2
        cases ys with
        | nil => cases h1
        | cons y ys =>
          obtain ⟨a1, a2⟩ := List.cons.inj h1
          obtain ⟨b1, b2⟩ := List.cons.inj h2
          rw [ih ys a2 b2, Prod.ext a1 b1]
    rw [this xs ys h2.1 e2]
  | .lst _, .dct _, h => by cases h
  | .dct _, .lst _, h => by cases h
theorem sameS_eq : ∀ (a b : Sto), sameS a b = true → a = b
  | [], [], _ => rfl
  | [], _ :: _, h => by cases h
  | _ :: _, [], h => by cases h
  | a :: as, b :: bs, h => by
    have h2 : (a.same b && sameS as bs) = true := h
    rw [Bool.and_eq_true] at h2
    rw [sosame_eq _ _ h2.1, sameS_eq _ _ h2.2]
theorem Step.down (s : Step [] μ H μ' H') : Step [] μ H μ H' := ⟨List.prefix_refl _, fun _ h n => absurd h n, s.keep, s.dom⟩
theorem RS.down (r : RS K ω μ' st' H) (hp : μ <+: μ') (hb : ((st'.take μ.length).all (SO.bel μ.length)) = true) : RS K ω μ (st'.take μ.length) H := by
  have hl : μ.length ≤ μ'.length := hp.length_le
  refine ⟨by rw [List.length_take, ← r.len]; omega, ?_, fun a h => ⟨not_pre hp (r.om a h).1, (r.om a h).2⟩, fun n o e => ?_⟩
  · obtain ⟨t, rfl⟩ := hp
    exact (List.nodup_append.mp r.nd).1
  · have hn : n < μ.length := by
      have := (List.getElem?_eq_some_iff.mp e).1
      rw [List.length_take] at this
      omega
    rw [List.getElem?_take_of_lt hn] at e
    obtain ⟨a, h1, h2⟩ := r.ob n o e
    refine ⟨a, ?_, h2.down hp ?_⟩
    · obtain ⟨t, rfl⟩ := hp
      rwa [List.getElem?_append_left hn] at h1
    · exact List.all_eq_true.mp hb o (List.mem_of_getElem? (i := n) (by rw [List.getElem?_take_of_lt hn]; exact e))
/-- what a call leaves is true of the heap -/
theorem leave_ok {d : D} {v : V} {Q : VK} (r0 : RS K ω μ st H) (s : Step [] μ H μ' H') (r : RS K ω μ' st' H') (h : DV K ω μ' H' d v) (q : Fin K ω μ H (leave st d st').1 (leave st d st').2 Q) : Q v H' := by
  have hlen : μ.length = st.length := r0.len
  -- the datum, a list of the call's own as a tree
  have hd : D.bel st.length (outD st st' d) = true → DV K ω μ H' (outD st st' d) v := by
    intro hb
    rw [← hlen] at hb
    cases h with
    | @loc a m hm =>
      simp only [outD] at hb ⊢
      rw [← hlen] at hb ⊢
      by_cases hle : μ.length ≤ m
      · rw [if_pos hle] at hb ⊢
        simp only [der] at hb ⊢
        cases ho : st'[m]? with
        | none =>
          rw [ho] at hb
          simp only at hb ⊢
          exact DV.down s.pre (.loc hm) hb
        | some o =>
          rw [ho] at hb
          cases o with
          | dct kvs =>
            simp only at hb ⊢
            exact DV.down s.pre (.loc hm) hb
          | lst xs =>
            simp only at hb ⊢
            obtain ⟨b, h1, vs, h2, h3, h4⟩ := r.ob m _ ho
            rw [hm] at h1; cases h1
            refine .lst ⟨fun z => ?_, fun z => (r.om a z).1 (List.mem_of_getElem? hm), h2⟩ h3 (h4.down s.pre hb)
            obtain ⟨j, hj, ej⟩ := List.mem_iff_getElem.mp z
            have e2 : μ'[j]? = some a := by rw [← ej]; exact pre_get s.pre (List.getElem?_eq_getElem hj)
            obtain ⟨l1, e3⟩ := List.getElem?_eq_some_iff.mp hm
            obtain ⟨l2, e4⟩ := List.getElem?_eq_some_iff.mp e2
            have : m = j := (List.getElem_inj r.nd).mp (e3.trans e4.symm)
            omega
      · rw [if_neg hle] at hb ⊢
        exact DV.down s.pre (.loc hm) hb
    | non => exact .non
    | bl b => exact .bl b
    | int b => exact .int b
    | str b => exact .str b
    | tup t l x => exact DV.down s.pre (.tup t l x) hb
    | lst t l x => exact DV.down s.pre (.lst t l x) hb
    | scr t l x => exact DV.down s.pre (.scr t l x) hb
  unfold leave at q
  split at q
  · rename_i hc
    rw [Bool.and_eq_true] at hc
    have e := sameS_eq _ _ hc.2
    have hb : ((st'.take μ.length).all (SO.bel μ.length)) = true := by
      rw [hlen, e, List.all_eq_true]
      intro o ho
      obtain ⟨n, hn⟩ := List.mem_iff_getElem?.mp ho
      obtain ⟨a, _, h2⟩ := r0.ob n o hn
      rw [← hlen]
      exact h2.bel
    have r2 := r.down s.pre hb
    rw [hlen, e] at r2
    exact q μ v H' s.down r2 (hd hc.1)
  · split at q
    · rename_i hc
      rw [Bool.and_eq_true] at hc
      have r2 := r.down s.pre (by rw [hlen]; exact hc.2)
      rw [hlen] at r2
      exact q μ v H' s.down r2 (hd hc.1)
    · exact q μ' v H' s r h
end
/-! ### every def -/
def ckOf (p : Prg) (kws : List (Nat × List Str × List Nat)) (frees : List Str) (d : Df) (scope : Scope) : Ck := ⟨d.N, scope, fun _ => true, p.defs.map fun d => (d.nm, d.ps), kws, frees⟩
/-- one def: where it stands, what it binds, and that the IR is its text -/
structure DefOk (p : Prg) (kws : List (Nat × List Str × List Nat)) (frees : List Str) (K : PySem.W.Frag) (mg : Str → Option Value) (f : Nat) (d : Df) (a : Addr) (fd : FuncData) : Prop where
  fn : ∃ (qual : Str) (params : Arguments) (body : List Stmt) (scope : Scope), FunD K d.nm qual params body scope [] [] a fd ∧ FnScope d.N d.ps scope ∧ agSs (ckOf p kws frees d scope) d.body body = true
  at_ : mg d.nm = some (.ref a)
  binds : Binds K fd d.ps []
  kb : ∀ ks js, (f, ks, js) ∈ kws → KB0 K fd d.ps ks js
structure PgOk (p : Prg) (kws : List (Nat × List Str × List Nat)) (frees : List Str) (w : World) (K : PySem.W.Frag) (mg : Str → Option Value) (ad : Nat → Addr) (fd : Nat → FuncData) : Prop where
  defs : ∀ f d, p.defs[f]? = some d → DefOk p kws frees K mg f d (ad f) (fd f)
  free : ∀ x ∈ frees, mg x = none
  gl : ∀ x d, p.gl x = some d → ∃ v u, mg x = some u ∧ RelV v u ∧ ∀ ω μ H, DV K ω μ H d v
  gd : ∀ x kvs, p.gd x = some kvs → ∃ ad, mg x = some (.ref ad) ∧ ∀ s d, kvs.lookup s = some d → ∃ v, KDct K w ad s v ∧ ∀ ω μ H, DV K ω μ H d v
section
variable {p : Prg} {kws : List (Nat × List Str × List Nat)} {frees : List Str} {P : Program} {w : World} {K : PySem.W.Frag} {mg : Str → Option Value} {base : Heap} {ad : Nat → Addr} {fd : Nat → FuncData}
theorem fn_all (ok : PgOk p kws frees w K mg ad fd) : ∀ (k f : Nat) (d : Df), p.defs[f]? = some d → FnOk P w K mg base CX0 k (ad f) (fd f) d.ps (spD K d.ps.length (evCall p k f))
  | 0, f, d, _ => ⟨fun vs H Q E h => h.1, fun A outer s H args us vs Q E hr he hb hv ⟨hl, ω, μ, st, ds, d, st', h1, h2, h3, h4⟩ => by
    simp [evCall] at h3⟩
  | k + 1, f, d, hf => by
    have ih := fn_all ok k
    obtain ⟨qual, params, body, scope, F, S, ag⟩ := (ok.defs f d hf).fn
    refine F.ok S (fun vs H Q E h => h.1) fun cdv A outer s H vs Q E hr ⟨hl, ω, μ, st, ds, r, st', h1, h2, h3, h4⟩ => ?_
    simp only [evCall, hf] at h3
    split at h3
    · rename_i hdl
      obtain ⟨⟨fl, δ', st2⟩, e1, e2⟩ := Option.bind_eq_some_iff.mp h3
      refine ⟨tS K (evSs ⟨p.gl, p.gd, evCall p k⟩ d.body), PSs.nox ?_, ω, μ, _, st, fl, δ', st2, ?_, e1, fun μ' σ' H' s' R => ?_⟩
      · refine Ss_ok (X := (cxOf CX0 P w K mg base d.N qual scope (ad f) cdv A outer s H E).nox) (C := ⟨p.gl, p.gd, evCall p k⟩) (k := ckOf p kws frees d scope) ⟨rfl, S.nd, rfl, S.kind, fun _ _ => rfl, rfl, ?_, ok.free, ok.gl, ok.gd, fun g nm ps hg => ?_⟩ PassesOwn.never d.body body ag
        · have := hr.un
          show (A.deeper _).units + 65 < cLine
          omega
        · have hg2 : (p.defs[g]?).map (fun d => (d.nm, d.ps)) = some (nm, ps) := by rw [← List.getElem?_map]; exact hg
          obtain ⟨d2, hd2, e3⟩ := Option.map_eq_some_iff.mp hg2
          obtain ⟨rfl, rfl⟩ := Prod.mk.inj e3
          have D2 := ok.defs g d2 hd2
          obtain ⟨_, _, _, _, F2, _, _⟩ := D2.fn
          exact ⟨k, ad g, fd g, ih g d2 hd2, hr, D2.at_, F2.kp, D2.binds, D2.kb⟩
      · refine ⟨h2, ?_, fun i dd hi => ?_⟩
        · have hh := h1.length
          have hpl : d.ps.length ≤ d.N.length := by have := congrArg List.length S.pre; rw [List.length_take] at this; omega
          simp only [L2.start, List.length_append, List.length_map, List.length_replicate]
          omega
        · unfold L2.start
          by_cases hi2 : i < ds.length
          · rw [List.getElem?_append_left (by simpa using hi2), List.getElem?_map] at hi
            cases e3 : ds[i]? with
            | none => rw [e3] at hi; cases hi
            | some d3 =>
              rw [e3] at hi
              obtain rfl : d3 = dd := by simpa using hi
              obtain ⟨v, g1, g2⟩ := h1.get e3
              refine ⟨v, ?_, g2⟩
              rw [List.getElem?_append_left (by rw [List.length_map, ← h1.length]; exact hi2), List.getElem?_map, g1]
              rfl
          · rw [List.getElem?_append_right (by simpa using hi2), List.getElem?_replicate] at hi
            split at hi <;> simp at hi
      · cases fl with
        | nx =>
          simp only at e2
          have e2 := Option.some.inj e2
          have e3 : r = (leave st .non st2).1 := by rw [e2]
          have e4 : st' = (leave st .non st2).2 := by rw [e2]
          exact leave_ok h2 s' R.rs .non (by rw [← e3, ← e4]; exact h4)
        | bk =>
          cases e2
        | rt dd =>
          intro v hv
          simp only at e2
          have e2 := Option.some.inj e2
          have e3 : r = (leave st dd st2).1 := by rw [e2]
          have e4 : st' = (leave st dd st2).2 := by rw [e2]
          exact leave_ok h2 s' R.rs hv (by rw [← e3, ← e4]; exact h4)
    · cases h3
end
end Ev
set_option Elab.async false
set_option linter.all false
set_option maxRecDepth 100000
set_option maxHeartbeats 4000000
/-! From the head's facts to the program's. -/
namespace Ev
open PySem PySem.Spec PyProof.Rows L2
/-! ### constants as trees -/
mutual
def treeB (K : PySem.W.Frag) : D → Value → Bool
  | .non, u => (match u with
    | .none => true
    | _ => false)
  | .bl b, u => (match u with
    | .bool c => b == c
    | _ => false)
  | .int i, u => (match u with
    | .int j _ => decide (i = j)
    | _ => false)
  | .str s, u => (match u with
    | .str x _ => decide (s = x)
    | _ => false)
  | .tup ds, u => (match u with
    | .ref a => (match K.lookup a with
      | some ⟨.type c, _, .seq its _, _⟩ => decide (c = "tuple") && decide (its.size ≤ sizeLine) && treesB K ds its.toList
      | _ => false)
    | _ => false)
  | _, _ => false
def treesB (K : PySem.W.Frag) : List D → List Value → Bool
  | [], us => us.isEmpty
  | d :: ds, us => (match us with
    | u :: us => treeB K d u && treesB K ds us
    | [] => false)
end
mutual
theorem treeB_ok {K : PySem.W.Frag} : ∀ {d : D} {u : Value}, treeB K d u = true → ∃ v, RelV v u ∧ ∀ ω μ H, DV K ω μ H d v
  | .non, u, h => by
    unfold treeB at h
    split at h
    · exact ⟨.non, rfl, fun _ _ _ => .non⟩
    · cases h
  | .bl b, u, h => by
    unfold treeB at h
    split at h
    · obtain rfl := eq_of_beq h
      exact ⟨.bl b, rfl, fun _ _ _ => .bl b⟩
    · cases h
  | .int i, u, h => by
    unfold treeB at h
    split at h
    · obtain rfl := of_decide_eq_true h
      exact ⟨.int i, ⟨_, rfl⟩, fun _ _ _ => .int i⟩
    · cases h
  | .str i, u, h => by
    unfold treeB at h
    split at h
    · obtain rfl := of_decide_eq_true h
      exact ⟨.str i, ⟨_, rfl⟩, fun _ _ _ => .str i⟩
    · cases h
  | .tup ds, u, h => by
    unfold treeB at h
    split at h
    · rename_i a
      split at h
      · rename_i c od its n sl hl
        simp only [Bool.and_eq_true, decide_eq_true_eq] at h
        obtain ⟨⟨rfl, h2⟩, h3⟩ := h
        obtain ⟨vs, r, hv⟩ := treesB_ok h3
        refine ⟨.ref a, rfl, fun ω μ H => .tup (.inr ⟨_, its, n, hl, rfl, rfl, h2, r⟩) ?_ (hv ω μ H)⟩
        rw [(hv ω μ H).length, r.length, Array.length_toList]
        exact h2
      · cases h
    · cases h
  | .lst _, u, h => by unfold treeB at h; cases h
  | .scr _, u, h => by unfold treeB at h; cases h
  | .loc _, u, h => by unfold treeB at h; cases h
theorem treesB_ok {K : PySem.W.Frag} : ∀ {ds : List D} {us : List Value}, treesB K ds us = true → ∃ vs, Vals vs us ∧ ∀ ω μ H, DVs K ω μ H ds vs
  | [], us, h => by
    unfold treesB at h
    obtain rfl := List.isEmpty_iff.mp h
    exact ⟨[], .nil, fun _ _ _ => .nil⟩
  | d :: ds, us, h => by
    unfold treesB at h
    split at h
    · simp only [Bool.and_eq_true] at h
      obtain ⟨v, r, hv⟩ := treeB_ok h.1
      obtain ⟨vs, rs, hvs⟩ := treesB_ok h.2
      exact ⟨v :: vs, .cons r rs, fun ω μ H => .cons (hv ω μ H) (hvs ω μ H)⟩
    · cases h
end
def conB (K : PySem.W.Frag) (l : List (Str × D)) : Bool := l.all fun q => match PySem.W.nsIn K mainGlobals q.1 with
  | some (some u) => treeB K q.2 u
  | _ => false
def tabB (K : PySem.W.Frag) (l : List (Str × List (Str × D))) : Bool := l.all fun q => q.2.all fun z => match PySem.W.nsIn K (He.ga K q.1) z.1 with
  | some (some u) => treeB K z.2 u
  | _ => false
def lk {α : Type} : List (Str × α) → Str → Option α
  | [], _ => none
  | (y, d) :: r, x => if y = x then some d else lk r x
theorem lk_mem {α : Type} : ∀ {l : List (Str × α)} {x : Str} {d : α}, lk l x = some d → (x, d) ∈ l
  | [], _, _, h => by cases h
  | (y, e) :: r, x, d, h => by
    unfold lk at h
    split at h
    · rename_i hy
      obtain rfl := Option.some.inj h
      rw [hy]; exact List.mem_cons_self
    · exact List.mem_cons_of_mem _ (lk_mem h)
theorem lookup_memS {α : Type} : ∀ {l : List (Str × α)} {x : Str} {d : α}, l.lookup x = some d → (x, d) ∈ l
  | [], _, _, h => by cases h
  | (y, e) :: r, x, d, h => by
    rw [List.lookup_cons] at h
    split at h
    · rename_i hb
      obtain rfl := Option.some.inj h
      have : x = y := by simpa using hb
      rw [this]; exact List.mem_cons_self
    · exact List.mem_cons_of_mem _ (lookup_memS h)
def tabs (l : List (Str × List (Str × D))) : List He.Tab := l.map fun q => ((fun K => He.ga K q.1), q.2.map (·.1))
/-! ### the defs -/
abbrev bindsAt (d : Df) (dd : He.DefD) : Prop := ∀ (kV doc pm : Value) (an : Option Addr) (cdv ct : Value) (us : List Value), us.length = d.ps.length → bindArgs (PySem.W.fnOf dd.name dd.qual dd.params dd.body dd.scope .none kV doc pm an cdv ct) ⟨us, []⟩ = pure (d.ps.zip us)
abbrev kwAt (d : Df) (dd : He.DefD) (ks : List Str) (js : List Nat) : Prop := ∀ (kV doc pm : Value) (an : Option Addr) (cdv ct : Value) (ws : List Value), ws.length = d.ps.length → bindArgs (PySem.W.fnOf dd.name dd.qual dd.params dd.body dd.scope .none kV doc pm an cdv ct) ⟨[], ks.zip ws⟩ = pure (d.ps.zip (js.filterMap (ws[·]?)))
structure DefC (p : Prg) (kws : List (Nat × List Str × List Nat)) (frees : List Str) (fa : List He.Fa) (d : Df) (dd : He.DefD) : Prop where
  name : dd.name = d.nm
  at_ : dd.at_ = (d.nm, none)
  dfl : dd.dfl = []
  kwd : dd.kwd = []
  glo : He.Fa.glo d.nm ∈ fa
  sc : FnScope d.N d.ps dd.scope
  ag : agSs (ckOf p kws frees d dd.scope) d.body dd.body = true
  bd : bindsAt d dd
inductive AllD (Q : Df → He.DefD → Prop) : List Df → List He.DefD → Prop
  | nil : AllD Q [] []
  | cons {d : Df} {dd : He.DefD} {ds : List Df} {dds : List He.DefD} : Q d dd → AllD Q ds dds → AllD Q (d :: ds) (dd :: dds)
theorem AllD.get {Q : Df → He.DefD → Prop} : ∀ {ds : List Df} {dds : List He.DefD}, AllD Q ds dds → ∀ (f : Nat) (d : Df), ds[f]? = some d → ∃ dd : He.DefD, dds[f]? = some dd ∧ Q d dd
  | _, _, .nil, _, _, h => by simp at h
  | _, _, .cons q r, 0, d, h => by
    obtain rfl := Option.some.inj (show some _ = some d from h)
    exact ⟨_, rfl, q⟩
  | _, _, .cons q r, f + 1, d, h => AllD.get r f d h
theorem pg_of {p : Prg} {kws : List (Nat × List Str × List Nat)} {frees : List Str} {w : World} {K : PySem.W.Frag} {mg : Str → Option Value} {h : Heap} {fa : List He.Fa} {fn : List He.DefD} {glT : List (Str × D)} {gdT : List (Str × List (Str × D))}
    (X : K.In h) (G : h.Ns mainGlobals mg) (c : He.SaysX fa fn (tabs gdT) [] (fun K => conB K glT && tabB K gdT) w h K) (hgl : p.gl = lk glT) (hgd : p.gd = lk gdT) (hfr : ∀ x ∈ frees, He.Fa.free x ∈ fa) (hgt : ∀ q ∈ gdT, He.Fa.glo q.1 ∈ fa)
    (hd : ∀ (f : Nat) (d : Df), p.defs[f]? = some d → ∃ dd : He.DefD, fn[f]? = some dd ∧ DefC p kws frees fa d dd) (h0 : ∃ d, p.defs[0]? = some d) (hk : ∀ (f : Nat) (ks : List Str) (js : List Nat) (d : Df) (dd : He.DefD), (f, ks, js) ∈ kws → p.defs[f]? = some d → fn[f]? = some dd → kwAt d dd ks js) :
    ∃ fd : Nat → FuncData, PgOk p kws frees w K mg (fun f => match p.defs[f]? with | some d => He.ga K d.nm | none => 0) fd ∧ ∀ (f : Nat) (d : Df) (dd : He.DefD), p.defs[f]? = some d → fn[f]? = some dd → ∃ (kV doc pm : Value) (an : Option Addr) (cdv ct : Value), fd f = PySem.W.fnOf dd.name dd.qual dd.params dd.body dd.scope .none kV doc pm an cdv ct := by
  have cd : He.SaysD fa fn K := He.SaysT.d c.t
  have cm : (conB K glT && tabB K gdT) = true := c.more
  obtain ⟨cm1, cm2⟩ := Bool.and_eq_true_iff.mp cm
  have one : ∀ f d, p.defs[f]? = some d → ∃ fd, DefOk p kws frees K mg f d (He.ga K d.nm) fd ∧ ∀ dd, fn[f]? = some dd → ∃ (kV doc pm : Value) (an : Option Addr) (cdv ct : Value), fd = PySem.W.fnOf dd.name dd.qual dd.params dd.body dd.scope .none kV doc pm an cdv ct := by
    intro f d hf
    obtain ⟨dd, hdd, C⟩ := hd f d hf
    obtain ⟨fd, F⟩ := cd.def_ f hdd
    have e1 : dd.dvs K = [] := by unfold He.DefD.dvs; rw [C.dfl]; rfl
    have e2 : dd.kws K = [] := by unfold He.DefD.kws; rw [C.kwd]; rfl
    have e3 : He.fAd K dd.at_ = He.ga K d.nm := by rw [C.at_]; rfl
    rw [e1, e2, e3] at F
    have F0 := F
    obtain ⟨oc, od, dV, kV, doc, pm, an, cdv, ct, osl, e4, lk, hcd, hD, hK⟩ := F.ex
    have e5 : dV = .none := by
      rcases hD with ⟨_, h⟩ | ⟨h, _⟩
      · exact h
      · exact absurd rfl h
    subst e5
    refine ⟨fd, ⟨⟨dd.qual, dd.params, dd.body, dd.scope, by have F1 := F0; rw [C.name] at F1; exact F1, C.sc, C.ag⟩, He.glo_ok X G (cd.facts C.glo), FunD.bindsN F0 C.bd, fun ks js hm s ws KX hl => ?_⟩, fun dd2 h2 => ?_⟩
    · rw [e4]
      exact .of_eq (hk f ks js d dd hm hf hdd kV doc pm an cdv ct ws hl)
    · rw [hdd] at h2
      obtain rfl := Option.some.inj h2
      exact ⟨kV, doc, pm, an, cdv, ct, e4⟩
  obtain ⟨d0, hd0⟩ := h0
  obtain ⟨fd0, _⟩ := one 0 d0 hd0
  have all : ∀ f, ∃ fd : FuncData, ∀ d, p.defs[f]? = some d → DefOk p kws frees K mg f d (He.ga K d.nm) fd ∧ ∀ dd, fn[f]? = some dd → ∃ (kV doc pm : Value) (an : Option Addr) (cdv ct : Value), fd = PySem.W.fnOf dd.name dd.qual dd.params dd.body dd.scope .none kV doc pm an cdv ct := by
    intro f
    cases hf : p.defs[f]? with
    | none => exact ⟨fd0, fun d h => by cases h⟩
    | some d =>
      obtain ⟨fd, h1⟩ := one f d hf
      exact ⟨fd, fun d' h => by obtain rfl := Option.some.inj h; exact h1⟩
  refine ⟨fun f => Classical.choose (all f), ⟨fun f d hf => ?_, fun x hx => He.free_ok X G (cd.facts (hfr x hx)), fun x d e => ?_, fun x kvs e => ?_⟩, fun f d dd hf hdd => (Classical.choose_spec (all f) d hf).2 dd hdd⟩
  · have := (Classical.choose_spec (all f) d hf).1
    have e : (match p.defs[f]? with | some d => He.ga K d.nm | none => 0) = He.ga K d.nm := by rw [hf]
    show DefOk p kws frees K mg f d (match p.defs[f]? with | some d => He.ga K d.nm | none => 0) _
    rw [e]
    exact this
  · rw [hgl] at e
    have h1 := List.all_eq_true.mp cm1 _ (lk_mem e)
    simp only at h1
    split at h1
    · rename_i u hu
      obtain ⟨v, r, hv⟩ := treeB_ok h1
      exact ⟨v, u, PySem.W.mg_of X G hu, r, hv⟩
    · cases h1
  · rw [hgd] at e
    have hm := lk_mem e
    have h1 := List.all_eq_true.mp cm2 _ hm
    refine ⟨He.ga K x, He.glo_ok X G (cd.facts (hgt _ hm)), fun s d hs => ?_⟩
    have h2 := List.all_eq_true.mp h1 _ (lookup_memS hs)
    simp only at h2
    split at h2
    · rename_i u hu
      obtain ⟨v, r, hv⟩ := treeB_ok h2
      obtain ⟨i, hi, ei⟩ := List.mem_iff_getElem.mp hm
      have ht : (tabs gdT)[i]? = some ((fun K => He.ga K x), kvs.map (·.1)) := by
        unfold tabs
        rw [List.getElem?_map, List.getElem?_eq_getElem hi, ei]
        rfl
      obtain ⟨es, n, kd⟩ := He.SaysT.tab c.t i ht
      exact ⟨v, ⟨es, n, u, kd.at_, kd.lit, hu, r⟩, hv⟩
    · cases h2
/-- the law's own promise, from what the evaluator says -/
theorem law_sp {p : Prg} {K : PySem.W.Frag} {k f : Nat} (hl : ∀ ns : List Int, ns.length ≤ 63 → ∃ st, evCall p k f [.scr (ns.map D.int)] [] = some (.bl true, st)) (H : Hp) (a : Addr) (ns : List Int) (hn : ns.length ≤ 63) (hS : SqL K H a (ns.map V.int)) :
    spD K 1 (evCall p k f) [.ref a] H (fun v _ => v = .bl true) fun _ _ _ => False := by
  obtain ⟨st, e⟩ := hl ns hn
  refine ⟨rfl, [], [], [], [.scr (ns.map D.int)], .bl true, st, .cons (.scr ?_ ?_ (.of_ints ns)) .nil, .nil, e, fun μ' v H' s r d => ?_⟩
  · rcases hS with h | h
    · exact .inl ⟨by simp, by simp, h⟩
    · exact .inr h
  · rw [List.length_map, sizeLine_eq]; omega
  · cases d; rfl
end Ev
set_option Elab.async false
set_option linter.all false
set_option maxRecDepth 100000
set_option maxHeartbeats 4000000
/-! Reckoning with the evaluator. -/
namespace Ev
open PySem PySem.Spec PyProof.Rows L2
mutual
theorem same_refl : ∀ d : D, D.same d d = true
  | .non => rfl
  | .bl b => by simp [D.same]
  | .int b => by simp [D.same]
  | .str b => by simp [D.same]
  | .loc b => by simp [D.same]
  | .tup xs => sames_refl xs
  | .lst xs => sames_refl xs
  | .scr xs => sames_refl xs
theorem sames_refl : ∀ ds : List D, D.sames ds ds = true
  | [] => rfl
  | d :: ds => by
    show (D.same d d && D.sames ds ds) = true
    rw [same_refl d, sames_refl ds] <;> rfl
end
mutual
theorem bel_mono {n m : Nat} (h : n ≤ m) : ∀ d : D, D.bel n d = true → D.bel m d = true
  | .non, _ => rfl
  | .bl b, _ => rfl
  | .int b, _ => rfl
  | .str b, _ => rfl
  | .loc b, e => by
    have : b < n := of_decide_eq_true e
    exact decide_eq_true (by omega)
  | .tup xs, e => bels_mono h xs e
  | .lst xs, e => bels_mono h xs e
  | .scr xs, e => bels_mono h xs e
theorem bels_mono {n m : Nat} (h : n ≤ m) : ∀ ds : List D, D.bels n ds = true → D.bels m ds = true
  | [], _ => rfl
  | d :: ds, e => by
    have e2 : (D.bel n d && D.bels n ds) = true := e
    rw [Bool.and_eq_true] at e2
    show (D.bel m d && D.bels m ds) = true
    rw [bel_mono h d e2.1, bels_mono h ds e2.2] <;> rfl
end
theorem bels_all {n : Nat} : ∀ {ds : List D}, (∀ d ∈ ds, D.bel n d = true) → D.bels n ds = true
  | [], _ => rfl
  | d :: ds, h => by
    show (D.bel n d && D.bels n ds) = true
    rw [h d List.mem_cons_self, bels_all fun x hx => h x (List.mem_cons_of_mem _ hx)] <;> rfl
theorem bels_mem {n : Nat} : ∀ {ds : List D}, D.bels n ds = true → ∀ d ∈ ds, D.bel n d = true
  | d :: ds, e, x, hx => by
    have e2 : (D.bel n d && D.bels n ds) = true := e
    rw [Bool.and_eq_true] at e2
    rcases List.mem_cons.mp hx with rfl | hx
    · exact e2.1
    · exact bels_mem e2.2 x hx
/-- what a call leaves -/
theorem leave_eq {st st' : Sto} {d : D} (h1 : D.bel st.length (outD st st' d) = true) (h2 : (st'.take st.length).all (SO.bel st.length) = true) : leave st d st' = (outD st st' d, st'.take st.length) := by
  unfold leave
  split
  · rename_i h
    rw [Bool.and_eq_true] at h
    rw [sameS_eq _ _ h.2]
  · rw [h1, h2]
    rfl
theorem sameS_refl : ∀ s : Sto, sameS s s = true
  | [] => rfl
  | o :: s => by
    show (SO.same o o && sameS s s) = true
    rw [sameS_refl s]
    cases o with
    | lst xs => show (D.sames xs xs && true) = true; rw [sames_refl] <;> rfl
    | dct xs => show ((decide (xs.map (·.1) = xs.map (·.1)) && D.sames (xs.map (·.2)) (xs.map (·.2))) && true) = true; rw [sames_refl]; simp
/-- nothing of the caller's store is changed -/
theorem leave_pure {st ex : Sto} {d : D} (h1 : D.bel st.length (outD st (st ++ ex) d) = true) : leave st d (st ++ ex) = (outD st (st ++ ex) d, st) := by
  unfold leave
  rw [h1, List.take_left, sameS_refl]
  rfl
theorem leave_tree {st : Sto} {d : D} (h : D.bel 0 d = true) (ex : Sto := []) : leave st d (st ++ ex) = (d, st) := by
  have ho : outD st (st ++ ex) d = d := by
    cases d with
    | loc m => simp [D.bel] at h
    | _ => rfl
  rw [leave_pure (by rw [ho]; exact bel_mono (Nat.zero_le _) d h), ho]
theorem leave_tree0 {st : Sto} {d : D} (h : D.bel 0 d = true) : leave st d st = (d, st) := by
  have := leave_tree (st := st) h []
  rwa [List.append_nil] at this
theorem leave_list {st ex : Sto} {m : Nat} {xs : List D} (hm : st.length ≤ m) (e : (st ++ ex)[m]? = some (.lst xs)) (h : D.bels 0 xs = true) : leave st (.loc m) (st ++ ex) = (.lst xs, st) := by
  have ho : outD st (st ++ ex) (.loc m) = .lst xs := by
    simp only [outD, hm, if_true, der, e]
  rw [leave_pure (by rw [ho]; exact bels_mono (Nat.zero_le _) xs h), ho]
/-! ### comprehensions -/
theorem evC_map {g : D → Env → Option Env} {c e : Env → Sto → Option (D × Sto)} {ok : Sto → Bool} {δ : Env} {st : Sto} (f : D → D) (hok : ok st = true) : ∀ {items : List D}, (∀ d ∈ items, ∃ δ', g d δ = some δ' ∧ c δ' st = some (.bl true, st) ∧ e δ' st = some (f d, st)) → evC g c e ok δ items st = some (items.map f, st)
  | [], _ => by simp [evC, hok]
  | d :: ds, h => by
    obtain ⟨δ', h1, h2, h3⟩ := h d List.mem_cons_self
    have ih := evC_map f hok (items := ds) fun x hx => h x (List.mem_cons_of_mem _ hx)
    simp [evC, hok, h1, h2, h3, ih]
theorem evC_filter {g : D → Env → Option Env} {c e : Env → Sto → Option (D × Sto)} {ok : Sto → Bool} {δ : Env} {st : Sto} (p : D → Bool) (f : D → D) (hok : ok st = true) : ∀ {items : List D}, (∀ d ∈ items, ∃ δ', g d δ = some δ' ∧ c δ' st = some (.bl (p d), st) ∧ (p d = true → e δ' st = some (f d, st))) → evC g c e ok δ items st = some ((items.filter p).map f, st)
  | [], _ => by simp [evC, hok]
  | d :: ds, h => by
    obtain ⟨δ', h1, h2, h3⟩ := h d List.mem_cons_self
    have ih := evC_filter p f hok (items := ds) fun x hx => h x (List.mem_cons_of_mem _ hx)
    cases hp : p d with
    | true => simp [evC, hok, h1, h2, hp, h3 hp, ih]
    | false => simp [evC, hok, h1, h2, hp, ih]
theorem evC_mapL {α : Type} {g : D → Env → Option Env} {c e : Env → Sto → Option (D × Sto)} {ok : Sto → Bool} {δ : Env} {st : Sto} (enc f : α → D) (hok : ok st = true) : ∀ {xs : List α}, (∀ x ∈ xs, ∃ δ', g (enc x) δ = some δ' ∧ c δ' st = some (.bl true, st) ∧ e δ' st = some (f x, st)) → evC g c e ok δ (xs.map enc) st = some (xs.map f, st)
  | [], _ => by simp [evC, hok]
  | d :: ds, h => by
    obtain ⟨δ', h1, h2, h3⟩ := h d List.mem_cons_self
    have ih := evC_mapL enc f hok (xs := ds) fun x hx => h x (List.mem_cons_of_mem _ hx)
    simp [evC, hok, h1, h2, h3, ih]
theorem evC_filterL {α : Type} {g : D → Env → Option Env} {c e : Env → Sto → Option (D × Sto)} {ok : Sto → Bool} {δ : Env} {st : Sto} (enc f : α → D) (p : α → Bool) (hok : ok st = true) : ∀ {xs : List α}, (∀ x ∈ xs, ∃ δ', g (enc x) δ = some δ' ∧ c δ' st = some (.bl (p x), st) ∧ (p x = true → e δ' st = some (f x, st))) → evC g c e ok δ (xs.map enc) st = some ((xs.filter p).map f, st)
  | [], _ => by simp [evC, hok]
  | d :: ds, h => by
    obtain ⟨δ', h1, h2, h3⟩ := h d List.mem_cons_self
    have ih := evC_filterL enc f p hok (xs := ds) fun x hx => h x (List.mem_cons_of_mem _ hx)
    cases hp : p d with
    | true => simp [evC, hok, h1, h2, hp, h3 hp, ih]
    | false => simp [evC, hok, h1, h2, hp, ih]
theorem evE_comp {C : Cfg} {m : Bool} {own : List Nat} {g : G} {it : It} {c e : E} {δ : Env} {st st1 st2 st3 : Sto} {w : Wk} {xs : List D} {d : D} (h1 : evI C it δ st = some (w, st1)) (h2 : evC (evG g) (evE C c) (evE C e) w.ok (wipeD δ own) w.items st1 = some (xs, st2)) (h3 : mkL m xs st2 = some (d, st3)) :
    evE C (.comp m own g it c e) δ st = some (d, st3) := by
  show ((evI C it δ st).bind fun (w, st1) => (evC (evG g) (evE C c) (evE C e) w.ok (wipeD δ own) w.items st1).bind fun (xs, st2) => mkL m xs st2) = _
  rw [h1]
  show ((evC (evG g) (evE C c) (evE C e) w.ok (wipeD δ own) w.items st1).bind fun (xs, st2) => mkL m xs st2) = _
  rw [h2]
  exact h3
theorem evS_for {C : Cfg} {g : G} {it : It} {b : Ss} {δ : Env} {st st1 : Sto} {w : Wk} {r : Option (Fl × Env × Sto)} (h1 : evI C it δ st = some (w, st1)) (h2 : evFor (evG g) (evSs C b) w.ok w.items δ st1 = r) : evS C (.for g it b) δ st = r := by
  show ((evI C it δ st).bind fun (w, st1) => evFor (evG g) (evSs C b) w.ok w.items δ st1) = r
  rw [h1]
  exact h2
theorem mkL_ok {xs : List D} {st : Sto} (h : xs.length ≤ LIM) : mkL false xs st = some (.lst xs, st) := by
  simp [mkL, h]
theorem bls_map {α : Type} (p : α → Bool) : ∀ xs : List α, bls? (xs.map fun x => D.bl (p x)) = some (xs.map p)
  | [] => rfl
  | x :: xs => by
    show (bls? (xs.map fun x => D.bl (p x))).map (p x :: ·) = _
    rw [bls_map p xs]
    rfl
theorem ints_map : ∀ xs : List Int, ints? (xs.map D.int) = some xs
  | [] => rfl
  | x :: xs => by
    show (ints? (xs.map D.int)).map (x :: ·) = _
    rw [ints_map xs]
    rfl
theorem ints_mapf {α : Type} (p : α → Int) : ∀ xs : List α, ints? (xs.map fun x => D.int (p x)) = some (xs.map p)
  | [] => rfl
  | x :: xs => by
    show (ints? (xs.map fun x => D.int (p x))).map (p x :: ·) = _
    rw [ints_mapf p xs]
    rfl
theorem map_all {α : Type} (p : α → Bool) (xs : List α) : (xs.map p).all id = xs.all p := by
  induction xs with
  | nil => rfl
  | cons x xs ih => simp
/-! ### for -/
theorem evFor_nil {g : D → Env → Option Env} {b : Env → Sto → Option (Fl × Env × Sto)} {ok : Sto → Bool} {δ : Env} {st : Sto} (h : ok st = true) : evFor g b ok [] δ st = some (.nx, δ, st) := by simp [evFor, h]
theorem evFor_cons {g : D → Env → Option Env} {b : Env → Sto → Option (Fl × Env × Sto)} {ok : Sto → Bool} {δ δ1 δ2 : Env} {st st2 : Sto} {d : D} {ds : List D} (h : ok st = true) (h1 : g d δ = some δ1) (h2 : b δ1 st = some (.nx, δ2, st2)) : evFor g b ok (d :: ds) δ st = evFor g b ok ds δ2 st2 := by simp [evFor, h, h1, h2]
theorem evFor_ret {g : D → Env → Option Env} {b : Env → Sto → Option (Fl × Env × Sto)} {ok : Sto → Bool} {δ δ1 δ2 : Env} {st st2 : Sto} {d r : D} {ds : List D} (h : ok st = true) (h1 : g d δ = some δ1) (h2 : b δ1 st = some (.rt r, δ2, st2)) : evFor g b ok (d :: ds) δ st = some (.rt r, δ2, st2) := by simp [evFor, h, h1, h2]
theorem keeps_tree {d : D} {xs : List D} (h : ∀ n, d ≠ .loc n) (st : Sto) : keeps d xs st = true := by
  cases d with
  | loc n => exact absurd rfl (h n)
  | _ => rfl
/-! ### equality of plain data (no bools, no objects) -/
mutual
def D.pl : Nat → D → Bool
  | _, .non => true
  | _, .int _ => true
  | _, .str s => PyData.strOk s
  | n, .tup xs => (match n with
    | 0 => false
    | m + 1 => D.pls m xs)
  | n, .lst xs => (match n with
    | 0 => false
    | m + 1 => D.pls m xs)
  | _, _ => false
def D.pls : Nat → List D → Bool
  | _, [] => true
  | n, d :: ds => D.pl n d && D.pls n ds
end
mutual
theorem pl_shape : ∀ {n : Nat} {d : D}, D.pl n d = true → d.py.canLay0 = true ∧ d.py.depth ≤ n
  | _, .non, _ => ⟨rfl, Nat.zero_le _⟩
  | _, .int _, _ => ⟨rfl, Nat.zero_le _⟩
  | _, .str s, h => ⟨by unfold D.pl at h; exact h, Nat.zero_le _⟩
  | 0, .tup xs, h => by simp [D.pl] at h
  | m + 1, .tup xs, h => by
    have h2 : D.pls m xs = true := by unfold D.pl at h; exact h
    obtain ⟨a, b⟩ := pls_shape h2
    exact ⟨a, Nat.succ_le_succ b⟩
  | 0, .lst xs, h => by simp [D.pl] at h
  | m + 1, .lst xs, h => by
    have h2 : D.pls m xs = true := by unfold D.pl at h; exact h
    obtain ⟨a, b⟩ := pls_shape h2
    exact ⟨a, Nat.succ_le_succ b⟩
  | _, .bl _, h => by unfold D.pl at h; cases h
  | _, .scr _, h => by unfold D.pl at h; cases h
  | _, .loc _, h => by unfold D.pl at h; cases h
theorem pls_shape : ∀ {n : Nat} {ds : List D}, D.pls n ds = true → PyData.canLayAll0 (D.pys ds) = true ∧ PyData.depthAll (D.pys ds) ≤ n
  | _, [], _ => ⟨rfl, Nat.zero_le _⟩
  | n, d :: ds, h => by
    have h2 : (D.pl n d && D.pls n ds) = true := by unfold D.pls at h; exact h
    rw [Bool.and_eq_true] at h2
    obtain ⟨a, b⟩ := pl_shape h2.1
    obtain ⟨c, e⟩ := pls_shape h2.2
    refine ⟨?_, ?_⟩
    · show (d.py.canLay0 && PyData.canLayAll0 (D.pys ds)) = true
      rw [a, c] <;> rfl
    · show max d.py.depth (PyData.depthAll (D.pys ds)) ≤ n
      omega
end
mutual
theorem pl_eqv : ∀ {n m : Nat} {a b : D}, D.pl n a = true → D.pl m b = true → PyData.eqv a.py b.py = D.same a b
  | _, _, .non, b, _, hb => by cases b <;> first | rfl | (unfold D.pl at hb; cases hb; done)
  | _, _, .int i, b, _, hb => by cases b <;> first | rfl | (unfold D.pl at hb; cases hb; done)
  | _, _, .str s, b, _, hb => by
    cases b with
    | str t =>
      show (s == t) = decide (s = t)
      by_cases h : s = t
      · simp [h]
      · simp [h]
    | non => rfl
    | int _ => rfl
    | tup _ => rfl
    | lst _ => rfl
    | _ => unfold D.pl at hb; cases hb
  | 0, _, .tup xs, _, ha, _ => by simp [D.pl] at ha
  | n + 1, 0, .tup xs, b, _, hb => by
    cases b with
    | tup _ => simp [D.pl] at hb
    | lst _ => simp [D.pl] at hb
    | non => rfl
    | int _ => rfl
    | str _ => rfl
    | _ => unfold D.pl at hb; cases hb
  | n + 1, m + 1, .tup xs, b, ha, hb => by
    have h2 : D.pls n xs = true := by unfold D.pl at ha; exact ha
    cases b with
    | tup ys =>
      have h3 : D.pls m ys = true := by unfold D.pl at hb; exact hb
      exact pls_eqv h2 h3
    | lst _ => rfl
    | non => rfl
    | int _ => rfl
    | str _ => rfl
    | _ => unfold D.pl at hb; cases hb
  | 0, _, .lst xs, _, ha, _ => by simp [D.pl] at ha
  | n + 1, 0, .lst xs, b, _, hb => by
    cases b with
    | tup _ => simp [D.pl] at hb
    | lst _ => simp [D.pl] at hb
    | non => rfl
    | int _ => rfl
    | str _ => rfl
    | _ => unfold D.pl at hb; cases hb
  | n + 1, m + 1, .lst xs, b, ha, hb => by
    have h2 : D.pls n xs = true := by unfold D.pl at ha; exact ha
    cases b with
    | lst ys =>
      have h3 : D.pls m ys = true := by unfold D.pl at hb; exact hb
      exact pls_eqv h2 h3
    | tup _ => rfl
    | non => rfl
    | int _ => rfl
    | str _ => rfl
    | _ => unfold D.pl at hb; cases hb
  | _, _, .bl _, _, h, _ => by unfold D.pl at h; cases h
  | _, _, .scr _, _, h, _ => by unfold D.pl at h; cases h
  | _, _, .loc _, _, h, _ => by unfold D.pl at h; cases h
theorem pls_eqv : ∀ {n m : Nat} {as bs : List D}, D.pls n as = true → D.pls m bs = true → PyData.eqvAll (D.pys as) (D.pys bs) = D.sames as bs
  | _, _, [], [], _, _ => rfl
  | _, _, [], _ :: _, _, _ => rfl
  | _, _, _ :: _, [], _, _ => rfl
  | n, m, a :: as, b :: bs, ha, hb => by
    have h2 : (D.pl n a && D.pls n as) = true := by unfold D.pls at ha; exact ha
    have h3 : (D.pl m b && D.pls m bs) = true := by unfold D.pls at hb; exact hb
    rw [Bool.and_eq_true] at h2 h3
    show (PyData.eqv a.py b.py && PyData.eqvAll (D.pys as) (D.pys bs)) = (D.same a b && D.sames as bs)
    rw [pl_eqv h2.1 h3.1, pls_eqv h2.2 h3.2]
end
theorem same_iff (a b : D) : (D.same a b = true) ↔ a = b := ⟨same_eq a b, fun h => by rw [h]; exact same_refl b⟩
open Classical in
theorem deq_pl {a b : D} (ha : D.pl 60 a = true) (hb : D.pl 60 b = true) : deq a b = some (D.same a b) := by
  obtain ⟨a1, a2⟩ := pl_shape ha
  obtain ⟨b1, b2⟩ := pl_shape hb
  unfold deq
  have h1 : SeqAt.shaped a.py = true := by unfold SeqAt.shaped; rw [a1]; simp; omega
  have h2 : SeqAt.shaped b.py = true := by unfold SeqAt.shaped; rw [b1]; simp; omega
  rw [h1, h2, pl_eqv ha hb]
  rfl
theorem pls_of {n : Nat} : ∀ {ds : List D}, (∀ d ∈ ds, D.pl n d = true) → D.pls n ds = true
  | [], _ => rfl
  | d :: ds, h => by
    show (D.pl n d && D.pls n ds) = true
    rw [h d List.mem_cons_self, pls_of fun x hx => h x (List.mem_cons_of_mem _ hx)] <;> rfl
theorem inD_pl {x : D} (hx : D.pl 60 x = true) : ∀ {xs : List D}, (∀ y ∈ xs, D.pl 60 y = true) → inD x xs = some (xs.any fun y => D.same y x)
  | [], _ => rfl
  | y :: ys, h => by
    have ih := inD_pl hx (xs := ys) fun z hz => h z (List.mem_cons_of_mem _ hz)
    unfold inD
    rw [deq_pl (h y List.mem_cons_self) hx, ih]
    rfl
def kInt : D → Bool
  | .int _ => true
  | .bl _ => true
  | _ => false
def kBool : D → Bool
  | .bl _ => true
  | _ => false
def kStr : D → Bool
  | .str _ => true
  | _ => false
def kTup : D → Bool
  | .tup _ => true
  | _ => false
theorem isD_int (st : Sto) (d : D) : isiD st d .int = kInt d := by cases d <;> rfl
theorem isD_bool (st : Sto) (d : D) : isiD st d .bool = kBool d := by cases d <;> rfl
theorem isD_str (st : Sto) (d : D) : isiD st d .str = kStr d := by cases d <;> rfl
theorem isD_tup (st : Sto) (d : D) : isiD st d .tuple = kTup d := by cases d <;> rfl
theorem atI_nat {α : Type} (xs : List α) (i : Nat) (h : i < xs.length) : atI xs (i : Int) = xs[i]? := by
  unfold atI ixN
  have h1 : ¬ ((i : Int) < 0) := by omega
  first
    | (simp [h1, h]; done)
    | (simp [h]; done)
    | (split <;> simp_all <;> omega)
theorem atI_0 {α : Type} (x : α) (r : List α) : atI (x :: r) 0 = some x := atI_nat (x :: r) 0 (by simp)
theorem atI_1 {α : Type} (x y : α) (r : List α) : atI (x :: y :: r) 1 = some y := atI_nat (x :: y :: r) 1 (by simp)
theorem atI_2 {α : Type} (x y z : α) (r : List α) : atI (x :: y :: z :: r) 2 = some z := atI_nat (x :: y :: z :: r) 2 (by simp)
theorem atI_3 {α : Type} (x y z u : α) (r : List α) : atI (x :: y :: z :: u :: r) 3 = some u := atI_nat (x :: y :: z :: u :: r) 3 (by simp)
theorem kInt_non  : kInt .non = false := rfl
theorem kInt_bl (b : Bool) : kInt (.bl b) = true := rfl
theorem kInt_int (i : Int) : kInt (.int i) = true := rfl
theorem kInt_str (s : PySem.Str) : kInt (.str s) = false := rfl
theorem kInt_tup (xs : List D) : kInt (.tup xs) = false := rfl
theorem kInt_lst (xs : List D) : kInt (.lst xs) = false := rfl
theorem kBool_non  : kBool .non = false := rfl
theorem kBool_bl (b : Bool) : kBool (.bl b) = true := rfl
theorem kBool_int (i : Int) : kBool (.int i) = false := rfl
theorem kBool_str (s : PySem.Str) : kBool (.str s) = false := rfl
theorem kBool_tup (xs : List D) : kBool (.tup xs) = false := rfl
theorem kBool_lst (xs : List D) : kBool (.lst xs) = false := rfl
theorem kStr_non  : kStr .non = false := rfl
theorem kStr_bl (b : Bool) : kStr (.bl b) = false := rfl
theorem kStr_int (i : Int) : kStr (.int i) = false := rfl
theorem kStr_str (s : PySem.Str) : kStr (.str s) = true := rfl
theorem kStr_tup (xs : List D) : kStr (.tup xs) = false := rfl
theorem kStr_lst (xs : List D) : kStr (.lst xs) = false := rfl
theorem kTup_non  : kTup .non = false := rfl
theorem kTup_bl (b : Bool) : kTup (.bl b) = false := rfl
theorem kTup_int (i : Int) : kTup (.int i) = false := rfl
theorem kTup_str (s : PySem.Str) : kTup (.str s) = false := rfl
theorem kTup_tup (xs : List D) : kTup (.tup xs) = true := rfl
theorem kTup_lst (xs : List D) : kTup (.lst xs) = false := rfl
def derLoc (n : Nat) : Option SO → D
  | some (.lst xs) => .lst xs
  | some (.dct _) => .loc n
  | none => .loc n
theorem der_loc (st : Sto) (n : Nat) : der st (.loc n) = derLoc n st[n]? := by
  show (match st[n]? with
    | some (.lst xs) => D.lst xs
    | _ => .loc n) = _
  cases h : st[n]? with
  | none => rfl
  | some o => cases o <;> rfl
theorem derLoc_lst (n : Nat) (xs : List D) : derLoc n (some (.lst xs)) = .lst xs := rfl
theorem derLoc_dct (n : Nat) (xs : List (Key × D)) : derLoc n (some (.dct xs)) = .loc n := rfl
theorem der_non (st : Sto) : der st .non = .non := rfl
theorem der_bl (st : Sto) (b : Bool) : der st (.bl b) = .bl b := rfl
theorem der_int (st : Sto) (b : Int) : der st (.int b) = .int b := rfl
theorem der_str (st : Sto) (b : PySem.Str) : der st (.str b) = .str b := rfl
theorem der_tup (st : Sto) (b : List D) : der st (.tup b) = .tup b := rfl
theorem der_lst (st : Sto) (b : List D) : der st (.lst b) = .lst b := rfl
theorem der_scr (st : Sto) (b : List D) : der st (.scr b) = .scr b := rfl
def seqX : D → Option (List D)
  | .tup xs => some xs
  | .lst xs => some xs
  | .scr xs => some xs
  | _ => none
theorem seq_eq (st : Sto) (d : D) : seqOf st d = seqX (der st d) := by
  unfold seqOf
  cases der st d <;> rfl
theorem seqX_tup (xs : List D) : seqX (.tup xs) = some xs := rfl
theorem seqX_lst (xs : List D) : seqX (.lst xs) = some xs := rfl
theorem seqX_scr (xs : List D) : seqX (.scr xs) = some xs := rfl
def lstX : D → Option (List D)
  | .lst xs => some xs
  | _ => none
theorem derL_eq (st : Sto) (d : D) : derL st d = lstX (der st d) := by
  unfold derL
  cases der st d <;> rfl
theorem lstX_lst (xs : List D) : lstX (.lst xs) = some xs := rfl
theorem len_range {l : List Int} : ∀ {a b : Int}, l.Pairwise (· < ·) → (∀ k ∈ l, a ≤ k ∧ k < b) → (l.length : Int) ≤ max 0 (b - a) := by
  induction l with
  | nil => intro a b _ _; simp; omega
  | cons x l ih =>
    intro a b h h2
    obtain ⟨h3, h4⟩ := List.pairwise_cons.mp h
    have := ih (a := x + 1) (b := b) h4 fun k hk => ⟨by have := h3 k hk; omega, (h2 k (List.mem_cons_of_mem _ hk)).2⟩
    have hx := h2 x List.mem_cons_self
    rw [List.length_cons]
    omega
theorem evC2_mapL {α β : Type} {g : D → Env → Option Env} {w : Env → Sto → Option (Wk × Sto)} {vs : List Nat} {g1 : D → Env → Option Env} {c e : Env → Sto → Option (D × Sto)} {ok : Sto → Bool} {δ : Env} {st : Sto} (enc : α → D) (ys : α → List β) (enc2 f : β → D) (hok : ok st = true) : ∀ {xs : List α},
    (∀ x ∈ xs, ∃ δ' wk, g (enc x) δ = some δ' ∧ w δ' st = some (wk, st) ∧ wk.items = (ys x).map enc2 ∧ wk.ok st = true ∧ ∀ y ∈ ys x, ∃ δ2, g1 (enc2 y) (wipeD δ' vs) = some δ2 ∧ c δ2 st = some (.bl true, st) ∧ e δ2 st = some (f y, st)) →
    evC2 g w vs g1 c e ok δ (xs.map enc) st = some ((xs.flatMap fun x => (ys x).map f), st)
  | [], _ => by simp [evC2, hok]
  | x :: xs, h => by
    obtain ⟨δ', wk, h1, h2, h3, h4, h5⟩ := h x List.mem_cons_self
    have ih := evC2_mapL enc ys enc2 f hok (xs := xs) fun z hz => h z (List.mem_cons_of_mem _ hz)
    have hi := evC_mapL (g := g1) (c := c) (e := e) (ok := wk.ok) (δ := wipeD δ' vs) (st := st) enc2 f h4 (xs := ys x) h5
    simp [evC2, hok, h1, h2, h3, hi, ih]
theorem evE_comp2 {C : Cfg} {m : Bool} {own vs : List Nat} {g g1 : G} {it it1 : It} {c e : E} {δ : Env} {st st1 st2 st3 : Sto} {w : Wk} {xs : List D} {d : D} (h1 : evI C it δ st = some (w, st1)) (h2 : evC2 (evG g) (evI C it1) vs (evG g1) (evE C c) (evE C e) w.ok (wipeD δ own) w.items st1 = some (xs, st2)) (h3 : mkL m xs st2 = some (d, st3)) :
    evE C (.comp2 m own vs g it g1 it1 c e) δ st = some (d, st3) := by
  show ((evI C it δ st).bind fun (w, st1) => (evC2 (evG g) (evI C it1) vs (evG g1) (evE C c) (evE C e) w.ok (wipeD δ own) w.items st1).bind fun (xs, st2) => mkL m xs st2) = _
  rw [h1]
  show ((evC2 (evG g) (evI C it1) vs (evG g1) (evE C c) (evE C e) w.ok (wipeD δ own) w.items st1).bind fun (xs, st2) => mkL m xs st2) = _
  rw [h2]
  exact h3
theorem evE_and {C : Cfg} {a b : E} {δ : Env} {st : Sto} {x y : Bool} (h1 : evE C a δ st = some (.bl x, st)) (h2 : x = true → evE C b δ st = some (.bl y, st)) : evE C (.and a b) δ st = some (.bl (x && y), st) := by
  cases x with
  | true => simp [evE, h1, h2 rfl]
  | false => simp [evE, h1]
theorem evE_or {C : Cfg} {a b : E} {δ : Env} {st : Sto} {x y : Bool} (h1 : evE C a δ st = some (.bl x, st)) (h2 : x = false → evE C b δ st = some (.bl y, st)) : evE C (.or a b) δ st = some (.bl (x || y), st) := by
  cases x with
  | true => simp [evE, h1]
  | false => simp [evE, h1, h2 rfl]
theorem cut_1 (xs : List D) : cutD xs (some 1) none = xs.drop 1 := by
  unfold cutD
  cases xs with
  | nil => simp
  | cons x xs => simp [HT.sIx]
end Ev
set_option Elab.async false
set_option linter.all false
set_option maxRecDepth 100000
set_option maxHeartbeats 4000000
namespace K82
open PySem PySem.Spec PyProof.Rows L2 Ev
abbrev sl (l : List PySem.Str) : List PySem.Str := l
/-- 0: is_integer; names 0 thing -/
def b0 : Ss := (.cons (.ret (.and (.isi (.var 0) .int) (.not (.isi (.var 0) .bool))))
    .nil)
def d0 : Df := ⟨"is_integer", sl [("thing" : PySem.Str)], sl [("thing" : PySem.Str)], b0⟩
/-- 1: is_between; names 0 thing, 1 least, 2 most -/
def b1 : Ss := (.cons (.ret (.and (.call 0 (.cons (.var 0) .nil)) (.chain .le .le (.var 1) (.var 0) (.var 2))))
    .nil)
def d1 : Df := ⟨"is_between", sl [("thing" : PySem.Str), ("least" : PySem.Str), ("most" : PySem.Str)], sl [("thing" : PySem.Str), ("least" : PySem.Str), ("most" : PySem.Str)], b1⟩
/-- 2: are_between; names 0 thing, 1 least, 2 most, 3 part -/
def q2_0 : E := (.comp false [3] (.name 3) (.seq (.var 0)) (.bl true) (.call 1 (.cons (.var 3) (.cons (.var 1) (.cons (.var 2) .nil)))))
def b2 : Ss := (.cons (.ret (.and (.isi (.var 0) .tuple) (.b1 false .all q2_0)))
    .nil)
def d2 : Df := ⟨"are_between", sl [("thing" : PySem.Str), ("least" : PySem.Str), ("most" : PySem.Str)], sl [("thing" : PySem.Str), ("least" : PySem.Str), ("most" : PySem.Str), ("part" : PySem.Str)], b2⟩
/-- 3: is_word; names 0 thing, 1 word -/
def b3 : Ss := (.cons (.ret (.and (.isi (.var 0) .tuple) (.and (.cmp .gt (.b1 false .len (.var 0)) (.int 0)) (.and (.isi (.ix (.var 0) (.int 0)) .str) (.cmp .eq (.ix (.var 0) (.int 0)) (.var 1))))))
    .nil)
def d3 : Df := ⟨"is_word", sl [("thing" : PySem.Str), ("word" : PySem.Str)], sl [("thing" : PySem.Str), ("word" : PySem.Str)], b3⟩
/-- 4: is_size; names 0 thing -/
def b4 : Ss := (.cons (.ret (.call 1 (.cons (.var 0) (.cons (.int 1) (.cons (.gl "MOST_SIZE") .nil)))))
    .nil)
def d4 : Df := ⟨"is_size", sl [("thing" : PySem.Str)], sl [("thing" : PySem.Str)], b4⟩
/-- 5: is_lot_value; names 0 thing, 1 lot, 2 at -/
def q5_0 : E := (.comp false [2] (.name 2) (.rng2 (.int 1) (.b1 false .len (.var 1))) (.bl true) (.cmp .lt (.ix (.var 1) (.bin .sub (.var 2) (.int 1))) (.ix (.var 1) (.var 2))))
def b5 : Ss := (.cons (.iff (.or (.not (.isi (.var 0) .tuple)) (.or (.cmp .ne (.b1 false .len (.var 0)) (.int 2)) (.or (.not (.call 0 (.cons (.ix (.var 0) (.int 1)) .nil))) (.cmp .notin (.ix (.var 0) (.int 1)) (.tup (.cons (.int 1) (.cons (.neg (.int 1)) .nil))))))) (.cons (.ret (.bl false))
    .nil) .nil)
    (.cons (.set 1 (.ix (.var 0) (.int 0)))
    (.cons (.iff (.or (.not (.call 2 (.cons (.var 1) (.cons (.int 0) (.cons (.bin .sub (.gl "MOST_SIZE") (.int 1)) .nil))))) (.cmp .eq (.var 1) (.tup .nil))) (.cons (.ret (.bl false))
    .nil) .nil)
    (.cons (.ret (.b1 false .all q5_0))
    .nil))))
def d5 : Df := ⟨"is_lot_value", sl [("thing" : PySem.Str)], sl [("thing" : PySem.Str), ("lot" : PySem.Str), ("at" : PySem.Str)], b5⟩
/-- 6: is_throw_value; names 0 thing, 1 kinds, 2 lot, 3 sign, 4 part -/
def l6_0 : Ss := (.cons (.expr (.meth .extend (.var 1) (.cons (.var 2) .nil)))
    .nil)
def f6_0 : S := (.for (.tup [(.name 2), (.name 3)]) (.seq (.var 0)) l6_0)
def q6_0 : E := (.comp false [4] (.name 4) (.seq (.var 0)) (.bl true) (.call 5 (.cons (.var 4) .nil)))
def b6 : Ss := (.cons (.iff (.or (.not (.isi (.var 0) .tuple)) (.or (.cmp .eq (.var 0) (.tup .nil)) (.not (.b1 false .all q6_0)))) (.cons (.ret (.bl false))
    .nil) .nil)
    (.cons (.set 1 (.lst true .nil))
    (.cons f6_0
    (.cons (.ret (.cmp .eq (.b1 false .sorted (.var 1)) (.trng false false (.b1 false .len (.var 1)))))
    .nil))))
def d6 : Df := ⟨"is_throw_value", sl [("thing" : PySem.Str)], sl [("thing" : PySem.Str), ("kinds" : PySem.Str), ("lot" : PySem.Str), ("sign" : PySem.Str), ("part" : PySem.Str)], b6⟩
/-- 7: need_size; names 0 size -/
def b7 : Ss := (.cons (.iff (.not (.call 4 (.cons (.var 0) .nil))) (.cons .never
    .nil) .nil)
    .nil)
def d7 : Df := ⟨"need_size", sl [("size" : PySem.Str)], sl [("size" : PySem.Str)], b7⟩
/-- 8: need_throw; names 0 throw -/
def b8 : Ss := (.cons (.iff (.not (.call 6 (.cons (.var 0) .nil))) (.cons .never
    .nil) .nil)
    .nil)
def d8 : Df := ⟨"need_throw", sl [("throw" : PySem.Str)], sl [("throw" : PySem.Str)], b8⟩
/-- 9: need_kind; names 0 size, 1 kind -/
def b9 : Ss := (.cons (.iff (.not (.call 1 (.cons (.var 1) (.cons (.int 0) (.cons (.bin .sub (.var 0) (.int 1)) .nil))))) (.cons .never
    .nil) .nil)
    .nil)
def d9 : Df := ⟨"need_kind", sl [("size" : PySem.Str), ("kind" : PySem.Str)], sl [("size" : PySem.Str), ("kind" : PySem.Str)], b9⟩
/-- 10: need_number; names 0 number -/
def b10 : Ss := (.cons (.iff (.or (.not (.call 0 (.cons (.var 0) .nil))) (.cmp .lt (.var 0) (.int 0))) (.cons .never
    .nil) .nil)
    .nil)
def d10 : Df := ⟨"need_number", sl [("number" : PySem.Str)], sl [("number" : PySem.Str)], b10⟩
/-- 11: raw_size; names 0 throw, 1 lot, 2 sign -/
def q11_0 : E := (.comp false [1, 2] (.tup [(.name 1), (.name 2)]) (.seq (.var 0)) (.bl true) (.b1 false .len (.var 1)))
def b11 : Ss := (.cons (.ret (.b1 false .sum q11_0))
    .nil)
def d11 : Df := ⟨"raw_size", sl [("throw" : PySem.Str)], sl [("throw" : PySem.Str), ("lot" : PySem.Str), ("sign" : PySem.Str)], b11⟩
/-- 12: raw_lot_of; names 0 throw, 1 kind, 2 at, 3 lot, 4 sign -/
def l12_0 : Ss := (.cons (.iff (.cmp .isin (.var 1) (.var 3)) (.cons (.ret (.var 2))
    .nil) .nil)
    .nil)
def f12_0 : S := (.for (.tup [(.name 2), (.tup [(.name 3), (.name 4)])]) (.enm (.var 0)) l12_0)
def b12 : Ss := (.cons f12_0
    (.cons (.ret .non)
    .nil))
def d12 : Df := ⟨"raw_lot_of", sl [("throw" : PySem.Str), ("kind" : PySem.Str)], sl [("throw" : PySem.Str), ("kind" : PySem.Str), ("at" : PySem.Str), ("lot" : PySem.Str), ("sign" : PySem.Str)], b12⟩
/-- 13: raw_way; names 0 throw, 1 a, 2 b, 3 one, 4 other -/
def b13 : Ss := (.cons (.par [3, 4] (.cons (.call 12 (.cons (.var 0) (.cons (.var 1) .nil))) (.cons (.call 12 (.cons (.var 0) (.cons (.var 2) .nil))) .nil)))
    (.cons (.iff (.cmp .ne (.var 3) (.var 4)) (.cons (.ret (.ite (.cmp .lt (.var 3) (.var 4)) (.gl "AHEAD") (.gl "BEHIND")))
    .nil) .nil)
    (.cons (.ret (.ite (.cmp .eq (.ix (.ix (.var 0) (.var 3)) (.int 1)) (.int 1)) (.gl "KEPT") (.gl "TURNED")))
    .nil)))
def d13 : Df := ⟨"raw_way", sl [("throw" : PySem.Str), ("a" : PySem.Str), ("b" : PySem.Str)], sl [("throw" : PySem.Str), ("a" : PySem.Str), ("b" : PySem.Str), ("one" : PySem.Str), ("other" : PySem.Str)], b13⟩
/-- 14: one_lot; names 0 size, 1 sign -/
def b14 : Ss := (.cons (.ret (.tup (.cons (.tup (.cons (.trng false true (.var 0)) (.cons (.var 1) .nil))) .nil)))
    .nil)
def d14 : Df := ⟨"one_lot", sl [("size" : PySem.Str), ("sign" : PySem.Str)], sl [("size" : PySem.Str), ("sign" : PySem.Str)], b14⟩
/-- 15: is_part_lot; names 0 size, 1 thing, 2 one, 3 other -/
def q15_0 : E := (.comp false [2, 3] (.tup [(.name 2), (.name 3)]) (.zip (.var 1) (.sl false (.var 1) (.int 1) .skip)) (.bl true) (.cmp .lt (.var 2) (.var 3)))
def b15 : Ss := (.cons (.ret (.and (.call 2 (.cons (.var 1) (.cons (.int 0) (.cons (.bin .sub (.var 0) (.int 1)) .nil)))) (.b1 false .all q15_0)))
    .nil)
def d15 : Df := ⟨"is_part_lot", sl [("size" : PySem.Str), ("thing" : PySem.Str)], sl [("size" : PySem.Str), ("thing" : PySem.Str), ("one" : PySem.Str), ("other" : PySem.Str)], b15⟩
/-- 16: inner_of; names 0 size, 1 thing -/
def b16 : Ss := (.cons (.iff (.and (.call 3 (.cons (.var 1) (.cons (.str "throw") .nil))) (.cmp .eq (.b1 false .len (.var 1)) (.int 2))) (.cons (.ret (.ite (.and (.call 6 (.cons (.ix (.var 1) (.int 1)) .nil)) (.cmp .eq (.call 11 (.cons (.ix (.var 1) (.int 1)) .nil)) (.var 0))) (.lst false .nil) .non))
    .nil) .nil)
    (.cons (.iff (.and (.call 3 (.cons (.var 1) (.cons (.str "row") .nil))) (.cmp .eq (.b1 false .len (.var 1)) (.int 2))) (.cons (.ret (.ite (.isi (.ix (.var 1) (.int 1)) .tuple) (.b1 false .list (.ix (.var 1) (.int 1))) .non))
    .nil) .nil)
    (.cons (.iff (.and (.call 3 (.cons (.var 1) (.cons (.str "choice") .nil))) (.cmp .eq (.b1 false .len (.var 1)) (.int 2))) (.cons (.ret (.ite (.and (.isi (.ix (.var 1) (.int 1)) .tuple) (.cmp .ne (.ix (.var 1) (.int 1)) (.tup .nil))) (.b1 false .list (.ix (.var 1) (.int 1))) .non))
    .nil) .nil)
    (.cons (.iff (.and (.call 3 (.cons (.var 1) (.cons (.str "often") .nil))) (.cmp .eq (.b1 false .len (.var 1)) (.int 2))) (.cons (.ret (.lst false (.cons (.ix (.var 1) (.int 1)) .nil)))
    .nil) .nil)
    (.cons (.iff (.and (.call 3 (.cons (.var 1) (.cons (.str "parted") .nil))) (.cmp .eq (.b1 false .len (.var 1)) (.int 4))) (.cons (.ret (.ite (.call 15 (.cons (.var 0) (.cons (.ix (.var 1) (.int 1)) .nil))) (.lst false (.cons (.ix (.var 1) (.int 2)) (.cons (.ix (.var 1) (.int 3)) .nil))) .non))
    .nil) .nil)
    (.cons (.ret .non)
    .nil))))))
def d16 : Df := ⟨"inner_of", sl [("size" : PySem.Str), ("thing" : PySem.Str)], sl [("size" : PySem.Str), ("thing" : PySem.Str)], b16⟩
/-- 17: parts_raw; names 0 size, 1 thing, 2 layer, 3 parts, 4 deep, 5 below, 6 part, 7 inner -/
def q17_0 : E := (.comp2 false [7, 6] [6] (.name 7) (.seq (.var 5)) (.name 6) (.seq (.var 7)) (.bl true) (.var 6))
def q17_1 : E := (.comp false [6] (.name 6) (.seq (.var 2)) (.bl true) (.call 16 (.cons (.var 0) (.cons (.var 6) .nil))))
def l17_0 : Ss := (.cons (.par [3, 4] (.cons (.bin .add (.var 3) (.b1 false .len (.var 2))) (.cons (.bin .add (.var 4) (.int 1)) .nil)))
    (.cons (.iff (.or (.cmp .gt (.var 3) (.gl "MOST_PARTS")) (.cmp .gt (.var 4) (.gl "MOST_DEEP"))) (.cons (.ret (.int 0))
    .nil) .nil)
    (.cons (.set 5 q17_1)
    (.cons (.iff (.cmp .isin .non (.var 5)) (.cons (.ret (.int 0))
    .nil) .nil)
    (.cons (.set 2 q17_0)
    .nil)))))
def f17_0 : S := (.while (.cmp .ne (.var 2) (.lst false .nil)) l17_0)
def b17 : Ss := (.cons (.par [2, 3, 4] (.cons (.lst false (.cons (.var 1) .nil)) (.cons (.int 0) (.cons (.int 0) .nil))))
    (.cons f17_0
    (.cons (.ret (.var 3))
    .nil)))
def d17 : Df := ⟨"parts_raw", sl [("size" : PySem.Str), ("thing" : PySem.Str)], sl [("size" : PySem.Str), ("thing" : PySem.Str), ("layer" : PySem.Str), ("parts" : PySem.Str), ("deep" : PySem.Str), ("below" : PySem.Str), ("part" : PySem.Str), ("inner" : PySem.Str)], b17⟩
/-- 18: link_then; names 0 one, 1 other, 2 found, 3 s, 4 t -/
def q18_0 : E := (.comp false [4] (.name 4) (.rng1 (.int 2)) (.bl true) (.or (.and (.ix (.ix (.var 0) (.var 3)) (.int 0)) (.ix (.ix (.var 1) (.int 0)) (.var 4))) (.and (.ix (.ix (.var 0) (.var 3)) (.int 1)) (.ix (.ix (.var 1) (.int 1)) (.var 4)))))
def l18_0 : Ss := (.cons (.expr (.meth .append (.var 2) (.cons (.b1 false .tuple q18_0) .nil)))
    .nil)
def f18_0 : S := (.for (.name 3) (.rng1 (.int 2)) l18_0)
def b18 : Ss := (.cons (.set 2 (.lst true .nil))
    (.cons f18_0
    (.cons (.ret (.b1 false .tuple (.var 2)))
    .nil)))
def d18 : Df := ⟨"link_then", sl [("one" : PySem.Str), ("other" : PySem.Str)], sl [("one" : PySem.Str), ("other" : PySem.Str), ("found" : PySem.Str), ("s" : PySem.Str), ("t" : PySem.Str)], b18⟩
/-- 19: link_or; names 0 one, 1 other, 2 s, 3 t -/
def q19_0 : E := (.comp false [3] (.name 3) (.rng1 (.int 2)) (.bl true) (.or (.ix (.ix (.var 0) (.var 2)) (.var 3)) (.ix (.ix (.var 1) (.var 2)) (.var 3))))
def q19_1 : E := (.comp false [2] (.name 2) (.rng1 (.int 2)) (.bl true) (.b1 false .tuple q19_0))
def b19 : Ss := (.cons (.ret (.b1 false .tuple q19_1))
    .nil)
def d19 : Df := ⟨"link_or", sl [("one" : PySem.Str), ("other" : PySem.Str)], sl [("one" : PySem.Str), ("other" : PySem.Str), ("s" : PySem.Str), ("t" : PySem.Str)], b19⟩
/-- 20: link_of; names 0 program, 1 a, 2 b, 3 word, 4 links, 5 found, 6 link, 7 once, 8 inner -/
def l20_0 : Ss := (.cons (.set 5 (.call 19 (.cons (.var 5) (.cons (.var 6) .nil))))
    .nil)
def f20_0 : S := (.for (.name 6) (.seq (.sl false (.var 4) (.int 1) .skip)) l20_0)
def l20_1 : Ss := (.cons (.set 5 (.call 18 (.cons (.var 5) (.cons (.var 6) .nil))))
    .nil)
def f20_1 : S := (.for (.name 6) (.seq (.var 4)) l20_1)
def q20_0 : E := (.comp false [8] (.name 8) (.seq (.ix (.var 0) (.int 1))) (.bl true) (.call 20 (.cons (.var 8) (.cons (.var 1) (.cons (.var 2) .nil)))))
def b20 : Ss := (.cons (.set 3 (.ix (.var 0) (.int 0)))
    (.cons (.iff (.cmp .eq (.var 3) (.str "throw")) (.cons (.ret (.gdx "BY_WAY" (.call 13 (.cons (.ix (.var 0) (.int 1)) (.cons (.var 1) (.cons (.var 2) .nil))))))
    .nil) .nil)
    (.cons (.iff (.cmp .eq (.var 3) (.str "parted")) (.cons (.iff (.cmp .ne (.cmp .isin (.var 1) (.ix (.var 0) (.int 1))) (.cmp .isin (.var 2) (.ix (.var 0) (.int 1)))) (.cons (.ret (.gl "ANYHOW"))
    .nil) .nil)
    (.cons (.ret (.call 20 (.cons (.ite (.cmp .isin (.var 1) (.ix (.var 0) (.int 1))) (.ix (.var 0) (.int 2)) (.ix (.var 0) (.int 3))) (.cons (.var 1) (.cons (.var 2) .nil)))))
    .nil)) .nil)
    (.cons (.iff (.cmp .eq (.var 3) (.str "often")) (.cons (.set 7 (.call 19 (.cons (.gl "SAME") (.cons (.call 20 (.cons (.ix (.var 0) (.int 1)) (.cons (.var 1) (.cons (.var 2) .nil)))) .nil))))
    (.cons (.ret (.call 18 (.cons (.var 7) (.cons (.var 7) .nil))))
    .nil)) .nil)
    (.cons (.set 4 q20_0)
    (.cons (.iff (.cmp .eq (.var 3) (.str "row")) (.cons (.set 5 (.gl "SAME"))
    (.cons f20_1
    (.cons (.ret (.var 5))
    .nil))) .nil)
    (.cons (.set 5 (.ix (.var 4) (.int 0)))
    (.cons f20_0
    (.cons (.ret (.var 5))
    .nil)))))))))
def d20 : Df := ⟨"link_of", sl [("program" : PySem.Str), ("a" : PySem.Str), ("b" : PySem.Str)], sl [("program" : PySem.Str), ("a" : PySem.Str), ("b" : PySem.Str), ("word" : PySem.Str), ("links" : PySem.Str), ("found" : PySem.Str), ("link" : PySem.Str), ("once" : PySem.Str), ("inner" : PySem.Str)], b20⟩
/-- 21: ends_raw; names 0 program, 1 a, 2 b, 3 link, 4 word, 5 can -/
def q21_0 : E := (.comp false [4, 5] (.tup [(.name 4), (.name 5)]) (.zip (.tup (.cons (.str "ahead") (.cons (.str "behind") .nil))) (.ix (.var 3) (.int 0))) (.var 5) (.var 4))
def b21 : Ss := (.cons (.set 3 (.call 20 (.cons (.var 0) (.cons (.var 1) (.cons (.var 2) .nil)))))
    (.cons (.ret (.b1 false .tuple q21_0))
    .nil))
def d21 : Df := ⟨"ends_raw", sl [("program" : PySem.Str), ("a" : PySem.Str), ("b" : PySem.Str)], sl [("program" : PySem.Str), ("a" : PySem.Str), ("b" : PySem.Str), ("link" : PySem.Str), ("word" : PySem.Str), ("can" : PySem.Str)], b21⟩
/-- 22: need_program; names 0 size, 1 program -/
def b22 : Ss := (.cons (.expr (.call 7 (.cons (.var 0) .nil)))
    (.cons (.iff (.cmp .eq (.call 17 (.cons (.var 0) (.cons (.var 1) .nil))) (.int 0)) (.cons .never
    .nil) .nil)
    .nil))
def d22 : Df := ⟨"need_program", sl [("size" : PySem.Str), ("program" : PySem.Str)], sl [("size" : PySem.Str), ("program" : PySem.Str)], b22⟩
/-- 23: ends; names 0 size, 1 program, 2 a, 3 b -/
def b23 : Ss := (.cons (.expr (.call 22 (.cons (.var 0) (.cons (.var 1) .nil))))
    (.cons (.expr (.call 9 (.cons (.var 0) (.cons (.var 2) .nil))))
    (.cons (.expr (.call 9 (.cons (.var 0) (.cons (.var 3) .nil))))
    (.cons (.ret (.call 21 (.cons (.var 1) (.cons (.var 2) (.cons (.var 3) .nil)))))
    .nil))))
def d23 : Df := ⟨"ends", sl [("size" : PySem.Str), ("program" : PySem.Str), ("a" : PySem.Str), ("b" : PySem.Str)], sl [("size" : PySem.Str), ("program" : PySem.Str), ("a" : PySem.Str), ("b" : PySem.Str)], b23⟩
/-- 24: are_two_kinds; names 0 size, 1 thing -/
def b24 : Ss := (.cons (.ret (.and (.call 2 (.cons (.var 1) (.cons (.int 0) (.cons (.bin .sub (.var 0) (.int 1)) .nil)))) (.cmp .eq (.b1 false .len (.var 1)) (.int 2))))
    .nil)
def d24 : Df := ⟨"are_two_kinds", sl [("size" : PySem.Str), ("thing" : PySem.Str)], sl [("size" : PySem.Str), ("thing" : PySem.Str)], b24⟩
/-- 25: need_two_programs; names 0 size, 1 one, 2 other -/
def b25 : Ss := (.cons (.expr (.call 22 (.cons (.var 0) (.cons (.var 1) .nil))))
    (.cons (.expr (.call 22 (.cons (.var 0) (.cons (.var 2) .nil))))
    .nil))
def d25 : Df := ⟨"need_two_programs", sl [("size" : PySem.Str), ("one" : PySem.Str), ("other" : PySem.Str)], sl [("size" : PySem.Str), ("one" : PySem.Str), ("other" : PySem.Str)], b25⟩
/-- 26: judge_alike; names 0 size, 1 one, 2 other, 3 a, 4 b -/
def l26_0 : Ss := (.cons (.iff (.cmp .ne (.call 21 (.cons (.var 1) (.cons (.var 3) (.cons (.var 4) .nil)))) (.call 21 (.cons (.var 2) (.cons (.var 3) (.cons (.var 4) .nil))))) (.cons (.ret (.tup (.cons (.str "unlike") (.cons (.var 3) (.cons (.var 4) .nil)))))
    .nil) .nil)
    .nil)
def f26_0 : S := (.for (.name 4) (.rng1 (.var 0)) l26_0)
def l26_1 : Ss := (.cons f26_0
    .nil)
def f26_1 : S := (.for (.name 3) (.rng1 (.var 0)) l26_1)
def b26 : Ss := (.cons (.expr (.call 25 (.cons (.var 0) (.cons (.var 1) (.cons (.var 2) .nil)))))
    (.cons f26_1
    (.cons (.ret (.tup (.cons (.str "alike") .nil)))
    .nil)))
def d26 : Df := ⟨"judge_alike", sl [("size" : PySem.Str), ("one" : PySem.Str), ("other" : PySem.Str)], sl [("size" : PySem.Str), ("one" : PySem.Str), ("other" : PySem.Str), ("a" : PySem.Str), ("b" : PySem.Str)], b26⟩
/-- 27: alike_holds; names 0 size, 1 one, 2 other, 3 thing -/
def b27 : Ss := (.cons (.expr (.call 25 (.cons (.var 0) (.cons (.var 1) (.cons (.var 2) .nil)))))
    (.cons (.iff (.and (.call 3 (.cons (.var 3) (.cons (.str "alike") .nil))) (.cmp .eq (.b1 false .len (.var 3)) (.int 1))) (.cons (.ret (.cmp .eq (.call 26 (.cons (.var 0) (.cons (.var 1) (.cons (.var 2) .nil)))) (.var 3)))
    .nil) .nil)
    (.cons (.iff (.or (.not (.call 3 (.cons (.var 3) (.cons (.str "unlike") .nil)))) (.not (.call 24 (.cons (.var 0) (.cons (.sl false (.var 3) (.int 1) .skip) .nil))))) (.cons (.ret (.bl false))
    .nil) .nil)
    (.cons (.ret (.cmp .ne (.call 21 (.cons (.var 1) (.cons (.ix (.var 3) (.int 1)) (.cons (.ix (.var 3) (.int 2)) .nil)))) (.call 21 (.cons (.var 2) (.cons (.ix (.var 3) (.int 1)) (.cons (.ix (.var 3) (.int 2)) .nil))))))
    .nil))))
def d27 : Df := ⟨"alike_holds", sl [("size" : PySem.Str), ("one" : PySem.Str), ("other" : PySem.Str), ("thing" : PySem.Str)], sl [("size" : PySem.Str), ("one" : PySem.Str), ("other" : PySem.Str), ("thing" : PySem.Str)], b27⟩
/-- 28: raw_both; names 0 one, 1 other, 2 found, 3 lot, 4 sign, 5 pieces, 6 first, 7 kept, 8 piece, 9 kind -/
def q28_0 : E := (.comp false [9] (.name 9) (.seq (.var 6)) (.cmp .isin (.var 9) (.var 3)) (.var 9))
def l28_0 : Ss := (.cons (.set 8 (.b1 false .tuple q28_0))
    (.cons (.iff (.cmp .ne (.var 8) (.tup .nil)) (.cons (.expr (.meth .append (.var 5) (.cons (.tup (.cons (.var 8) (.cons (.bin .mul (.var 7) (.var 4)) .nil))) .nil)))
    .nil) .nil)
    .nil))
def f28_0 : S := (.for (.tup [(.name 6), (.name 7)]) (.seq (.var 0)) l28_0)
def l28_1 : Ss := (.cons (.set 5 (.lst true .nil))
    (.cons f28_0
    (.cons (.expr (.meth .extend (.var 2) (.cons (.ite (.cmp .eq (.var 4) (.int 1)) (.var 5) (.rev false (.var 5))) .nil)))
    .nil)))
def f28_1 : S := (.for (.tup [(.name 3), (.name 4)]) (.seq (.var 1)) l28_1)
def b28 : Ss := (.cons (.set 2 (.lst true .nil))
    (.cons f28_1
    (.cons (.ret (.b1 false .tuple (.var 2)))
    .nil)))
def d28 : Df := ⟨"raw_both", sl [("one" : PySem.Str), ("other" : PySem.Str)], sl [("one" : PySem.Str), ("other" : PySem.Str), ("found" : PySem.Str), ("lot" : PySem.Str), ("sign" : PySem.Str), ("pieces" : PySem.Str), ("first" : PySem.Str), ("kept" : PySem.Str), ("piece" : PySem.Str), ("kind" : PySem.Str)], b28⟩
/-- 29: raw_row; names 0 size, 1 throws, 2 found, 3 throw -/
def l29_0 : Ss := (.cons (.set 2 (.call 28 (.cons (.var 2) (.cons (.var 3) .nil))))
    .nil)
def f29_0 : S := (.for (.name 3) (.seq (.var 1)) l29_0)
def b29 : Ss := (.cons (.set 2 (.call 14 (.cons (.var 0) (.cons (.int 1) .nil))))
    (.cons f29_0
    (.cons (.ret (.var 2))
    .nil)))
def d29 : Df := ⟨"raw_row", sl [("size" : PySem.Str), ("throws" : PySem.Str)], sl [("size" : PySem.Str), ("throws" : PySem.Str), ("found" : PySem.Str), ("throw" : PySem.Str)], b29⟩
/-- 30: is_throw_like; names 0 size, 1 thing -/
def b30 : Ss := (.cons (.ret (.and (.call 6 (.cons (.var 1) .nil)) (.cmp .eq (.call 11 (.cons (.var 1) .nil)) (.var 0))))
    .nil)
def d30 : Df := ⟨"is_throw_like", sl [("size" : PySem.Str), ("thing" : PySem.Str)], sl [("size" : PySem.Str), ("thing" : PySem.Str)], b30⟩
/-- 31: row_of; names 0 size, 1 throws, 2 throw -/
def q31_0 : E := (.comp false [2] (.name 2) (.seq (.var 1)) (.bl true) (.call 30 (.cons (.var 0) (.cons (.var 2) .nil))))
def b31 : Ss := (.cons (.expr (.call 7 (.cons (.var 0) .nil)))
    (.cons (.iff (.or (.not (.isi (.var 1) .tuple)) (.cmp .gt (.b1 false .len (.var 1)) (.gl "MOST_THROWS"))) (.cons .never
    .nil) .nil)
    (.cons (.iff (.not (.b1 false .all q31_0)) (.cons .never
    .nil) .nil)
    (.cons (.ret (.call 29 (.cons (.var 0) (.cons (.var 1) .nil))))
    .nil))))
def d31 : Df := ⟨"row_of", sl [("size" : PySem.Str), ("throws" : PySem.Str)], sl [("size" : PySem.Str), ("throws" : PySem.Str), ("throw" : PySem.Str)], b31⟩
/-- 32: power; names 0 throw, 1 n, 2 lot, 3 sign -/
def q32_0 : E := (.comp false [2, 3] (.tup [(.name 2), (.name 3)]) (.seq (.var 0)) (.bl true) (.tup (.cons (.var 2) (.cons (.int 1) .nil))))
def b32 : Ss := (.cons (.expr (.call 8 (.cons (.var 0) .nil)))
    (.cons (.expr (.call 10 (.cons (.var 1) .nil)))
    (.cons (.iff (.cmp .eq (.var 1) (.int 0)) (.cons (.ret (.call 14 (.cons (.call 11 (.cons (.var 0) .nil)) (.cons (.int 1) .nil))))
    .nil) .nil)
    (.cons (.ret (.ite (.cmp .eq (.bin .mod (.var 1) (.int 2)) (.int 1)) (.var 0) (.b1 false .tuple q32_0)))
    .nil))))
def d32 : Df := ⟨"power", sl [("throw" : PySem.Str), ("n" : PySem.Str)], sl [("throw" : PySem.Str), ("n" : PySem.Str), ("lot" : PySem.Str), ("sign" : PySem.Str)], b32⟩
/-- 33: _law_deck; names 0 _law_script, 1 _law_salt, 2 _law_mixed, 3 _law_cell -/
def q33_0 : E := (.comp false [3] (.name 3) (.seq (.sl false (.var 0) .skip (.int 63))) (.bl true) (.b1 false .int (.var 3)))
def l33_0 : Ss := (.cons (.set 2 (.bin .mod (.b1 false .int (.bin .add (.bin .add (.bin .mul (.var 2) (.int 43669)) (.bin .mod (.b1 false .int (.var 3)) (.int 2147483587))) (.int 59))) (.int 2147483579)))
    .nil)
def f33_0 : S := (.for (.name 3) (.seq (.sl false (.var 0) .skip (.int 63))) l33_0)
def b33 : Ss := (.cons (.set 2 (.bin .add (.int 10894000) (.var 1)))
    (.cons f33_0
    (.cons (.ret (.dct ["cells", "mixed", "turn"] (.cons (.rev true q33_0) (.cons (.var 2) (.cons (.int 0) .nil)))))
    .nil)))
def d33 : Df := ⟨"_law_deck", sl [("_law_script" : PySem.Str), ("_law_salt" : PySem.Str)], sl [("_law_script" : PySem.Str), ("_law_salt" : PySem.Str), ("_law_mixed" : PySem.Str), ("_law_cell" : PySem.Str)], b33⟩
/-- 34: _law_draw; names 0 _law_deck_here, 1 _law_below, 2 _law_figure, 3 _law_cell -/
def b34 : Ss := (.cons (.dput (.var 0) "turn" (.bin .add (.dget (.var 0) "turn") (.int 1)))
    (.cons (.set 2 (.bin .add (.dget (.var 0) "mixed") (.bin .mul (.int 70207) (.dget (.var 0) "turn"))))
    (.cons (.iff (.cmp .ne (.dget (.var 0) "cells") (.lst false .nil)) (.cons (.set 3 (.meth .pop (.dget (.var 0) "cells") .nil))
    (.cons (.iff (.cmp .ge (.var 3) (.bin .pow (.int 10) (.int 18))) (.cons (.expr (.meth .append (.dget (.var 0) "cells") (.cons (.bin .fdiv (.var 3) (.b2 .max (.int 2) (.var 1))) .nil)))
    (.cons (.ret (.bin .mod (.b1 false .int (.var 3)) (.var 1)))
    .nil)) .nil)
    (.cons (.set 2 (.bin .add (.var 2) (.bin .mod (.b1 false .int (.var 3)) (.int 2147483549))))
    .nil))) .nil)
    (.cons (.set 2 (.bin .mod (.b1 false .int (.bin .add (.bin .mul (.var 2) (.int 44485)) (.int 59))) (.int 2147483563)))
    (.cons (.set 2 (.bin .mod (.b1 false .int (.bin .add (.bin .add (.bin .mul (.var 2) (.var 2)) (.bin .mul (.int 80021) (.dget (.var 0) "turn"))) (.int 59))) (.int 2147483629)))
    (.cons (.set 2 (.bin .mod (.b1 false .int (.bin .mul (.var 2) (.int 48271))) (.int 2147483647)))
    (.cons (.ret (.bin .mod (.b1 false .int (.bin .fdiv (.var 2) (.int 64))) (.var 1)))
    .nil)))))))
def d34 : Df := ⟨"_law_draw", sl [("_law_deck_here" : PySem.Str), ("_law_below" : PySem.Str)], sl [("_law_deck_here" : PySem.Str), ("_law_below" : PySem.Str), ("_law_figure" : PySem.Str), ("_law_cell" : PySem.Str)], b34⟩
/-- 35: _law_pick; names 0 _law_deck_here, 1 _law_some_here -/
def b35 : Ss := (.cons (.ret (.ix (.var 1) (.call 34 (.cons (.var 0) (.cons (.b1 false .len (.var 1)) .nil)))))
    .nil)
def d35 : Df := ⟨"_law_pick", sl [("_law_deck_here" : PySem.Str), ("_law_some_here" : PySem.Str)], sl [("_law_deck_here" : PySem.Str), ("_law_some_here" : PySem.Str)], b35⟩
/-- 36: _law_some; names 0 _law_deck_here, 1 _law_things, 2 _law_many, 3 _law_go -/
def q36_0 : E := (.comp false [3] (.name 3) (.rng1 (.var 2)) (.bl true) (.call 35 (.cons (.var 0) (.cons (.var 1) .nil))))
def b36 : Ss := (.cons (.iff (.cmp .le (.b1 false .len (.var 1)) (.var 2)) (.cons (.ret (.b1 false .list (.var 1)))
    .nil) .nil)
    (.cons (.ret q36_0)
    .nil))
def d36 : Df := ⟨"_law_some", sl [("_law_deck_here" : PySem.Str), ("_law_things" : PySem.Str), ("_law_many" : PySem.Str)], sl [("_law_deck_here" : PySem.Str), ("_law_things" : PySem.Str), ("_law_many" : PySem.Str), ("_law_go" : PySem.Str)], b36⟩
/-- 37: _law_same; names 0 _law_one, 1 _law_due, 2 _law_a, 3 _law_b -/
def q37_0 : E := (.comp false [2, 3] (.tup [(.name 2), (.name 3)]) (.zip (.var 0) (.var 1)) (.not (.call 37 (.cons (.var 2) (.cons (.var 3) .nil)))) (.int 1))
def b37 : Ss := (.cons (.iff (.isi (.var 1) .tuple) (.cons (.iff (.or (.not (.isi (.var 0) .tuple)) (.cmp .ne (.b1 false .len (.var 0)) (.b1 false .len (.var 1)))) (.cons (.ret (.bl false))
    .nil) .nil)
    (.cons (.ret (.cmp .eq q37_0 (.lst false .nil)))
    .nil)) .nil)
    (.cons (.iff (.cmp .is (.var 1) .non) (.cons (.ret (.cmp .is (.var 0) .non))
    .nil) .nil)
    (.cons (.iff (.or (.cmp .is (.var 1) (.bl true)) (.cmp .is (.var 1) (.bl false))) (.cons (.ret (.and (.isi (.var 0) .bool) (.cmp .eq (.var 0) (.var 1))))
    .nil) .nil)
    (.cons (.iff (.isi (.var 1) .str) (.cons (.ret (.and (.isi (.var 0) .str) (.cmp .eq (.var 0) (.var 1))))
    .nil) .nil)
    (.cons (.ret (.and (.isi (.var 0) .int) (.and (.not (.isi (.var 0) .bool)) (.cmp .eq (.var 0) (.var 1)))))
    .nil)))))
def d37 : Df := ⟨"_law_same", sl [("_law_one" : PySem.Str), ("_law_due" : PySem.Str)], sl [("_law_one" : PySem.Str), ("_law_due" : PySem.Str), ("_law_a" : PySem.Str), ("_law_b" : PySem.Str)], b37⟩
/-- 38: _law_throw; names 0 _law_deck_here, 1 _law_size, 2 _law_kind, 3 _law_lots, 4 _law_signs, 5 _law_at, 6 _law_lot -/
def q38_0 : E := (.comp false [6] (.name 6) (.seq (.var 3)) (.bl true) (.tup (.cons (.b1 false .tuple (.var 6)) (.cons (.call 35 (.cons (.var 0) (.cons (.var 4) .nil))) .nil))))
def l38_0 : Ss := (.cons (.set 5 (.call 34 (.cons (.var 0) (.cons (.bin .add (.bin .mul (.int 2) (.b1 false .len (.var 3))) (.int 1)) .nil))))
    (.cons (.iff (.cmp .lt (.var 5) (.b1 false .len (.var 3))) (.cons (.expr (.meth .append (.ix (.var 3) (.var 5)) (.cons (.var 2) .nil)))
    .nil) (.cons (.expr (.meth .insert (.var 3) (.cons (.bin .sub (.var 5) (.b1 false .len (.var 3))) (.cons (.lst true (.cons (.var 2) .nil)) .nil))))
    .nil))
    .nil))
def f38_0 : S := (.for (.name 2) (.rng1 (.var 1)) l38_0)
def b38 : Ss := (.cons (.asg (.tup [(.name 3), (.name 4)]) (.tup (.cons (.lst true .nil) (.cons (.call 35 (.cons (.var 0) (.cons (.lst false (.cons (.lst false (.cons (.int 1) .nil)) (.cons (.lst false (.cons (.int 1) (.cons (.neg (.int 1)) .nil))) (.cons (.lst false (.cons (.int 1) (.cons (.neg (.int 1)) .nil))) (.cons (.lst false (.cons (.neg (.int 1)) (.cons (.int 1) .nil))) .nil))))) .nil))) .nil))))
    (.cons f38_0
    (.cons (.ret (.b1 false .tuple q38_0))
    .nil)))
def d38 : Df := ⟨"_law_throw", sl [("_law_deck_here" : PySem.Str), ("_law_size" : PySem.Str)], sl [("_law_deck_here" : PySem.Str), ("_law_size" : PySem.Str), ("_law_kind" : PySem.Str), ("_law_lots" : PySem.Str), ("_law_signs" : PySem.Str), ("_law_at" : PySem.Str), ("_law_lot" : PySem.Str)], b38⟩
/-- 39: _law_inner; names 0 _law_program_here -/
def b39 : Ss := (.cons (.iff (.cmp .isin (.ix (.var 0) (.int 0)) (.tup (.cons (.str "row") (.cons (.str "choice") .nil)))) (.cons (.ret (.ix (.var 0) (.int 1)))
    .nil) .nil)
    (.cons (.iff (.cmp .eq (.ix (.var 0) (.int 0)) (.str "often")) (.cons (.ret (.tup (.cons (.ix (.var 0) (.int 1)) .nil)))
    .nil) .nil)
    (.cons (.ret (.ite (.cmp .eq (.ix (.var 0) (.int 0)) (.str "parted")) (.sl false (.var 0) (.int 2) .skip) (.tup .nil)))
    .nil)))
def d39 : Df := ⟨"_law_inner", sl [("_law_program_here" : PySem.Str)], sl [("_law_program_here" : PySem.Str)], b39⟩
/-- 40: _law_program; names 0 _law_deck_here, 1 _law_size, 2 _law_deep, 3 _law_room, 4 _law_way, 5 _law_kinds, 6 _law_one, 7 _law_many, 8 _law_some_here, 9 _law_go, 10 _law_kind -/
def q40_0 : E := (.comp false [10] (.name 10) (.rng1 (.var 1)) (.cmp .eq (.call 34 (.cons (.var 0) (.cons (.int 2) .nil))) (.int 0)) (.var 10))
def q40_1 : E := (.comp false [9] (.name 9) (.rng1 (.var 7)) (.bl true) (.call 40 (.cons (.var 0) (.cons (.var 1) (.cons (.bin .sub (.var 2) (.int 1)) (.cons (.bin .fdiv (.bin .sub (.var 3) (.int 1)) (.var 7)) .nil))))))
def q40_2 : E := (.comp false [9] (.name 9) (.rng1 (.var 7)) (.bl true) (.call 40 (.cons (.var 0) (.cons (.var 1) (.cons (.bin .sub (.var 2) (.int 1)) (.cons (.bin .fdiv (.bin .sub (.var 3) (.int 1)) (.var 7)) .nil))))))
def b40 : Ss := (.cons (.set 4 (.call 34 (.cons (.var 0) (.cons (.int 10) .nil))))
    (.cons (.iff (.and (.cmp .gt (.var 3) (.int 6)) (.cmp .lt (.var 4) (.int 2))) (.cons (.set 4 (.bin .add (.var 4) (.int 6)))
    .nil) .nil)
    (.cons (.iff (.or (.cmp .lt (.var 2) (.int 2)) (.or (.cmp .lt (.var 3) (.int 3)) (.cmp .lt (.var 4) (.int 2)))) (.cons (.ret (.ite (.cmp .ne (.var 4) (.int 9)) (.tup (.cons (.str "throw") (.cons (.call 38 (.cons (.var 0) (.cons (.var 1) .nil))) .nil))) (.tup (.cons (.str "row") (.cons (.tup .nil) .nil)))))
    .nil) .nil)
    (.cons (.iff (.cmp .lt (.var 4) (.int 5)) (.cons (.set 7 (.b2 .min (.call 34 (.cons (.var 0) (.cons (.int 4) .nil))) (.bin .sub (.var 3) (.int 1))))
    (.cons (.set 8 q40_2)
    (.cons (.ret (.tup (.cons (.str "row") (.cons (.b1 false .tuple (.var 8)) .nil))))
    .nil))) .nil)
    (.cons (.iff (.cmp .lt (.var 4) (.int 7)) (.cons (.set 7 (.bin .add (.int 1) (.call 34 (.cons (.var 0) (.cons (.b2 .min (.int 3) (.bin .sub (.var 3) (.int 1))) .nil)))))
    (.cons (.set 8 q40_1)
    (.cons (.ret (.tup (.cons (.str "choice") (.cons (.b1 false .tuple (.var 8)) .nil))))
    .nil))) .nil)
    (.cons (.iff (.cmp .eq (.var 4) (.int 7)) (.cons (.ret (.tup (.cons (.str "often") (.cons (.call 40 (.cons (.var 0) (.cons (.var 1) (.cons (.bin .sub (.var 2) (.int 1)) (.cons (.bin .sub (.var 3) (.int 1)) .nil))))) .nil))))
    .nil) .nil)
    (.cons (.set 5 (.b1 false .tuple q40_0))
    (.cons (.set 6 (.call 40 (.cons (.var 0) (.cons (.var 1) (.cons (.bin .sub (.var 2) (.int 1)) (.cons (.bin .fdiv (.bin .sub (.var 3) (.int 1)) (.int 2)) .nil))))))
    (.cons (.ret (.tup (.cons (.str "parted") (.cons (.var 5) (.cons (.var 6) (.cons (.call 40 (.cons (.var 0) (.cons (.var 1) (.cons (.bin .sub (.var 2) (.int 1)) (.cons (.bin .fdiv (.bin .sub (.var 3) (.int 1)) (.int 2)) .nil))))) .nil))))))
    .nil)))))))))
def d40 : Df := ⟨"_law_program", sl [("_law_deck_here" : PySem.Str), ("_law_size" : PySem.Str), ("_law_deep" : PySem.Str), ("_law_room" : PySem.Str)], sl [("_law_deck_here" : PySem.Str), ("_law_size" : PySem.Str), ("_law_deep" : PySem.Str), ("_law_room" : PySem.Str), ("_law_way" : PySem.Str), ("_law_kinds" : PySem.Str), ("_law_one" : PySem.Str), ("_law_many" : PySem.Str), ("_law_some_here" : PySem.Str), ("_law_go" : PySem.Str), ("_law_kind" : PySem.Str)], b40⟩
/-- 41: _law_falls; names 0 _law_program_here, 1 _law_a, 2 _law_b, 3 _law_word, 4 _law_some_here, 5 _law_found, 6 _law_now, 7 _law_lot, 8 _law_sign, 9 _law_part, 10 _law_ahead, 11 _law_behind, 12 _law_x, 13 _law_y, 14 _law_more -/
def l41_0 : Ss := (.cons (.set 14 (.bin .bor (.iteT (.bin .band (.var 6) (.int 1)) (.var 12) (.int 0)) (.iteT (.bin .band (.var 6) (.int 2)) (.var 13) (.int 0))))
    (.cons (.set 6 (.ite (.cmp .eq (.var 3) (.str "row")) (.var 14) (.bin .bor (.var 6) (.var 14))))
    .nil))
def f41_0 : S := (.for (.tup [(.name 12), (.name 13)]) (.seq (.ite (.cmp .eq (.var 3) (.str "row")) (.var 4) (.bin .mul (.var 4) (.int 2)))) l41_0)
def l41_1 : Ss := (.cons f41_0
    (.cons (.expr (.meth .append (.var 5) (.cons (.var 6) .nil)))
    .nil))
def f41_1 : S := (.for (.name 6) (.seq (.tup (.cons (.int 1) (.cons (.int 2) .nil)))) l41_1)
def l41_2 : Ss := (.cons (.par [10, 11] (.cons (.bin .bor (.var 10) (.var 12)) (.cons (.bin .bor (.var 11) (.var 13)) .nil)))
    .nil)
def f41_2 : S := (.for (.tup [(.name 12), (.name 13)]) (.seq (.var 4)) l41_2)
def q41_0 : E := (.comp false [9] (.name 9) (.seq (.call 39 (.cons (.var 0) .nil))) (.bl true) (.call 41 (.cons (.var 9) (.cons (.var 1) (.cons (.var 2) .nil)))))
def l41_3 : Ss := (.cons (.iff (.and (.cmp .isin (.var 1) (.var 7)) (.cmp .isin (.var 2) (.var 7))) (.cons (.ret (.ite (.cmp .eq (.var 8) (.int 1)) (.tup (.cons (.int 1) (.cons (.int 2) .nil))) (.tup (.cons (.int 2) (.cons (.int 1) .nil)))))
    .nil) .nil)
    (.cons (.iff (.or (.cmp .isin (.var 1) (.var 7)) (.cmp .isin (.var 2) (.var 7))) (.cons (.ret (.ite (.cmp .isin (.var 1) (.var 7)) (.tup (.cons (.int 1) (.cons (.int 1) .nil))) (.tup (.cons (.int 2) (.cons (.int 2) .nil)))))
    .nil) .nil)
    .nil))
def f41_3 : S := (.for (.tup [(.name 7), (.name 8)]) (.seq (.ix (.var 0) (.int 1))) l41_3)
def b41 : Ss := (.cons (.set 3 (.ix (.var 0) (.int 0)))
    (.cons (.iff (.cmp .eq (.var 3) (.str "throw")) (.cons f41_3
    .nil) .nil)
    (.cons (.iff (.cmp .eq (.var 3) (.str "parted")) (.cons (.iff (.cmp .ne (.cmp .isin (.var 1) (.ix (.var 0) (.int 1))) (.cmp .isin (.var 2) (.ix (.var 0) (.int 1)))) (.cons (.ret (.tup (.cons (.int 3) (.cons (.int 3) .nil))))
    .nil) .nil)
    (.cons (.ret (.call 41 (.cons (.ite (.cmp .isin (.var 1) (.ix (.var 0) (.int 1))) (.ix (.var 0) (.int 2)) (.ix (.var 0) (.int 3))) (.cons (.var 1) (.cons (.var 2) .nil)))))
    .nil)) .nil)
    (.cons (.set 4 q41_0)
    (.cons (.iff (.cmp .eq (.var 3) (.str "choice")) (.cons (.asg (.tup [(.name 10), (.name 11)]) (.tup (.cons (.int 0) (.cons (.int 0) .nil))))
    (.cons f41_2
    (.cons (.ret (.tup (.cons (.var 10) (.cons (.var 11) .nil))))
    .nil))) .nil)
    (.cons (.set 5 (.lst true .nil))
    (.cons f41_1
    (.cons (.ret (.tup (.cons (.ix (.var 5) (.int 0)) (.cons (.ix (.var 5) (.int 1)) .nil))))
    .nil))))))))
def d41 : Df := ⟨"_law_falls", sl [("_law_program_here" : PySem.Str), ("_law_a" : PySem.Str), ("_law_b" : PySem.Str)], sl [("_law_program_here" : PySem.Str), ("_law_a" : PySem.Str), ("_law_b" : PySem.Str), ("_law_word" : PySem.Str), ("_law_some_here" : PySem.Str), ("_law_found" : PySem.Str), ("_law_now" : PySem.Str), ("_law_lot" : PySem.Str), ("_law_sign" : PySem.Str), ("_law_part" : PySem.Str), ("_law_ahead" : PySem.Str), ("_law_behind" : PySem.Str), ("_law_x" : PySem.Str), ("_law_y" : PySem.Str), ("_law_more" : PySem.Str)], b41⟩
/-- 42: _law_ends; names 0 _law_program_here, 1 _law_a, 2 _law_b -/
def b42 : Ss := (.cons (.ret (.ix (.tup (.cons (.tup .nil) (.cons (.tup (.cons (.str "ahead") .nil)) (.cons (.tup (.cons (.str "behind") .nil)) (.cons (.tup (.cons (.str "ahead") (.cons (.str "behind") .nil))) .nil))))) (.ix (.call 41 (.cons (.var 0) (.cons (.var 1) (.cons (.var 2) .nil)))) (.int 0))))
    .nil)
def d42 : Df := ⟨"_law_ends", sl [("_law_program_here" : PySem.Str), ("_law_a" : PySem.Str), ("_law_b" : PySem.Str)], sl [("_law_program_here" : PySem.Str), ("_law_a" : PySem.Str), ("_law_b" : PySem.Str)], b42⟩
/-- 43: _law_pairs; names 0 _law_size, 1 _law_found, 2 _law_a, 3 _law_b -/
def q43_0 : E := (.comp false [3] (.name 3) (.rng1 (.var 0)) (.bl true) (.tup (.cons (.var 2) (.cons (.var 3) .nil))))
def l43_0 : Ss := (.cons (.expr (.meth .extend (.var 1) (.cons q43_0 .nil)))
    .nil)
def f43_0 : S := (.for (.name 2) (.rng1 (.var 0)) l43_0)
def b43 : Ss := (.cons (.set 1 (.lst true .nil))
    (.cons f43_0
    (.cons (.ret (.var 1))
    .nil)))
def d43 : Df := ⟨"_law_pairs", sl [("_law_size" : PySem.Str)], sl [("_law_size" : PySem.Str), ("_law_found" : PySem.Str), ("_law_a" : PySem.Str), ("_law_b" : PySem.Str)], b43⟩
/-- 44: _law_unlike; names 0 _law_one, 1 _law_other, 2 _law_size, 3 _law_a, 4 _law_b -/
def q44_0 : E := (.comp false [3, 4] (.tup [(.name 3), (.name 4)]) (.seq (.call 43 (.cons (.var 2) .nil))) (.cmp .ne (.call 42 (.cons (.var 0) (.cons (.var 3) (.cons (.var 4) .nil)))) (.call 42 (.cons (.var 1) (.cons (.var 3) (.cons (.var 4) .nil))))) (.tup (.cons (.var 3) (.cons (.var 4) .nil))))
def b44 : Ss := (.cons (.ret q44_0)
    .nil)
def d44 : Df := ⟨"_law_unlike", sl [("_law_one" : PySem.Str), ("_law_other" : PySem.Str), ("_law_size" : PySem.Str)], sl [("_law_one" : PySem.Str), ("_law_other" : PySem.Str), ("_law_size" : PySem.Str), ("_law_a" : PySem.Str), ("_law_b" : PySem.Str)], b44⟩
/-- 45: _law_is_told; names 0 _law_word, 1 _law_bad, 2 _law_thing, 3 _law_some_here, 4 _law_a, 5 _law_b -/
def q45_0 : E := (.comp false [4, 5] (.tup [(.name 4), (.name 5)]) (.seq (.var 3)) (.call 37 (.cons (.var 2) (.cons (.tup (.cons (.var 1) (.cons (.var 4) (.cons (.var 5) .nil)))) .nil))) (.int 1))
def b45 : Ss := (.cons (.iff (.cmp .eq (.var 3) (.lst false .nil)) (.cons (.ret (.call 37 (.cons (.var 2) (.cons (.tup (.cons (.var 0) .nil)) .nil))))
    .nil) .nil)
    (.cons (.ret (.cmp .ne q45_0 (.lst false .nil)))
    .nil))
def d45 : Df := ⟨"_law_is_told", sl [("_law_word" : PySem.Str), ("_law_bad" : PySem.Str), ("_law_thing" : PySem.Str), ("_law_some_here" : PySem.Str)], sl [("_law_word" : PySem.Str), ("_law_bad" : PySem.Str), ("_law_thing" : PySem.Str), ("_law_some_here" : PySem.Str), ("_law_a" : PySem.Str), ("_law_b" : PySem.Str)], b45⟩
/-- 46: _law_is_judged; names 0 _law_deck_here, 1 _law_size, 2 _law_one, 3 _law_other, 4 _law_named, 5 _law_some_here, 6 _law_paper, 7 _law_a, 8 _law_b, 9 _law_told -/
def l46_0 : Ss := (.cons (.set 9 (.callK 27 [3, 2, 1, 0] (.cons (.tup (.cons (.str "unlike") (.cons (.var 7) (.cons (.var 8) .nil)))) (.cons (.var 3) (.cons (.var 2) (.cons (.var 1) .nil))))))
    (.cons (.iff (.not (.call 37 (.cons (.var 9) (.cons (.cmp .isin (.tup (.cons (.var 7) (.cons (.var 8) .nil))) (.var 5)) .nil)))) (.cons (.ret (.bl false))
    .nil) .nil)
    .nil))
def f46_0 : S := (.for (.tup [(.name 7), (.name 8)]) (.seq (.call 36 (.cons (.var 0) (.cons (.call 43 (.cons (.var 1) .nil)) (.cons (.int 3) .nil))))) l46_0)
def b46 : Ss := (.cons (.set 5 (.call 44 (.cons (.var 2) (.cons (.var 3) (.cons (.var 1) .nil)))))
    (.cons (.iff (.var 4) (.cons (.set 6 (.callK 26 [2, 1, 0] (.cons (.var 3) (.cons (.var 2) (.cons (.var 1) .nil)))))
    .nil) (.cons (.set 6 (.call 26 (.cons (.var 1) (.cons (.var 2) (.cons (.var 3) .nil)))))
    .nil))
    (.cons (.iff (.or (.not (.call 45 (.cons (.str "alike") (.cons (.str "unlike") (.cons (.var 6) (.cons (.var 5) .nil)))))) (.cmp .isnot (.call 27 (.cons (.var 1) (.cons (.var 3) (.cons (.var 2) (.cons (.var 6) .nil))))) (.bl true))) (.cons (.ret (.bl false))
    .nil) .nil)
    (.cons f46_0
    (.cons (.ret (.call 45 (.cons (.str "alike") (.cons (.str "unlike") (.cons (.call 26 (.cons (.var 1) (.cons (.var 3) (.cons (.var 2) .nil)))) (.cons (.var 5) .nil))))))
    .nil)))))
def d46 : Df := ⟨"_law_is_judged", sl [("_law_deck_here" : PySem.Str), ("_law_size" : PySem.Str), ("_law_one" : PySem.Str), ("_law_other" : PySem.Str), ("_law_named" : PySem.Str)], sl [("_law_deck_here" : PySem.Str), ("_law_size" : PySem.Str), ("_law_one" : PySem.Str), ("_law_other" : PySem.Str), ("_law_named" : PySem.Str), ("_law_some_here" : PySem.Str), ("_law_paper" : PySem.Str), ("_law_a" : PySem.Str), ("_law_b" : PySem.Str), ("_law_told" : PySem.Str)], b46⟩
/-- 47: _law_put; names 0 _law_deck_here, 1 _law_size, 2 _law_p, 3 _law_q, 4 _law_r, 5 _law_kinds, 6 _law_rest, 7 _law_whole, 8 _law_kind -/
def q47_0 : E := (.comp false [8] (.name 8) (.rng1 (.var 1)) (.cmp .notin (.var 8) (.var 5)) (.var 8))
def q47_1 : E := (.comp false [8] (.name 8) (.rng1 (.var 1)) (.cmp .eq (.call 34 (.cons (.var 0) (.cons (.int 2) .nil))) (.int 0)) (.var 8))
def b47 : Ss := (.cons (.set 5 (.b1 false .tuple q47_1))
    (.cons (.par [6, 7] (.cons (.b1 false .tuple q47_0) (.cons (.trng false true (.var 1)) .nil)))
    (.cons (.ret (.lst false (.cons (.tup (.cons (.tup (.cons (.str "row") (.cons (.tup (.cons (.var 2) (.cons (.var 3) (.cons (.var 4) .nil)))) .nil))) (.cons (.tup (.cons (.str "row") (.cons (.tup (.cons (.var 2) (.cons (.tup (.cons (.str "row") (.cons (.tup (.cons (.var 3) (.cons (.var 4) .nil))) .nil))) .nil))) .nil))) .nil))) (.cons (.tup (.cons (.tup (.cons (.str "choice") (.cons (.tup (.cons (.var 2) (.cons (.var 3) (.cons (.var 4) .nil)))) .nil))) (.cons (.tup (.cons (.str "choice") (.cons (.tup (.cons (.var 4) (.cons (.tup (.cons (.str "choice") (.cons (.tup (.cons (.var 2) (.cons (.var 3) (.cons (.var 2) .nil)))) .nil))) .nil))) .nil))) .nil))) (.cons (.tup (.cons (.tup (.cons (.str "often") (.cons (.tup (.cons (.str "choice") (.cons (.tup (.cons (.var 2) (.cons (.var 3) .nil))) .nil))) .nil))) (.cons (.tup (.cons (.str "often") (.cons (.tup (.cons (.str "row") (.cons (.tup (.cons (.tup (.cons (.str "often") (.cons (.var 2) .nil))) (.cons (.tup (.cons (.str "often") (.cons (.var 3) .nil))) .nil))) .nil))) .nil))) .nil))) (.cons (.tup (.cons (.tup (.cons (.str "parted") (.cons (.var 5) (.cons (.var 2) (.cons (.var 3) .nil))))) (.cons (.tup (.cons (.str "parted") (.cons (.var 6) (.cons (.var 3) (.cons (.var 2) .nil))))) .nil))) (.cons (.tup (.cons (.tup (.cons (.str "parted") (.cons (.tup .nil) (.cons (.var 2) (.cons (.var 3) .nil))))) (.cons (.var 3) .nil))) (.cons (.tup (.cons (.tup (.cons (.str "parted") (.cons (.var 7) (.cons (.var 2) (.cons (.var 3) .nil))))) (.cons (.tup (.cons (.str "row") (.cons (.tup (.cons (.var 2) (.cons (.tup (.cons (.str "row") (.cons (.tup .nil) .nil))) .nil))) .nil))) .nil))) (.cons (.tup (.cons (.tup (.cons (.str "row") (.cons (.tup (.cons (.tup (.cons (.str "choice") (.cons (.tup (.cons (.var 2) (.cons (.var 3) .nil))) .nil))) (.cons (.var 4) .nil))) .nil))) (.cons (.tup (.cons (.str "choice") (.cons (.tup (.cons (.tup (.cons (.str "row") (.cons (.tup (.cons (.var 2) (.cons (.var 4) .nil))) .nil))) (.cons (.tup (.cons (.str "row") (.cons (.tup (.cons (.var 3) (.cons (.var 4) .nil))) .nil))) .nil))) .nil))) .nil))) (.cons (.tup (.cons (.tup (.cons (.str "row") (.cons (.tup (.cons (.var 4) (.cons (.tup (.cons (.str "choice") (.cons (.tup (.cons (.var 2) (.cons (.var 3) .nil))) .nil))) .nil))) .nil))) (.cons (.tup (.cons (.str "choice") (.cons (.tup (.cons (.tup (.cons (.str "row") (.cons (.tup (.cons (.var 4) (.cons (.var 3) .nil))) .nil))) (.cons (.tup (.cons (.str "row") (.cons (.tup (.cons (.var 4) (.cons (.var 2) .nil))) .nil))) .nil))) .nil))) .nil))) .nil))))))))))
    .nil)))
def d47 : Df := ⟨"_law_put", sl [("_law_deck_here" : PySem.Str), ("_law_size" : PySem.Str), ("_law_p" : PySem.Str), ("_law_q" : PySem.Str), ("_law_r" : PySem.Str)], sl [("_law_deck_here" : PySem.Str), ("_law_size" : PySem.Str), ("_law_p" : PySem.Str), ("_law_q" : PySem.Str), ("_law_r" : PySem.Str), ("_law_kinds" : PySem.Str), ("_law_rest" : PySem.Str), ("_law_whole" : PySem.Str), ("_law_kind" : PySem.Str)], b47⟩
/-- 48: _law_are_throws; names 0 _law_deck_here, 1 _law_size, 2 _law_throws, 3 _law_row, 4 _law_throw_here, 5 _law_powers, 6 _law_go, 7 _law_n -/
def q48_0 : E := (.comp false [7] (.name 7) (.rng1 (.int 3)) (.bl true) (.tup (.cons (.str "throw") (.cons (.call 32 (.cons (.var 4) (.cons (.var 7) .nil))) .nil))))
def q48_1 : E := (.comp false [4] (.name 4) (.seq (.var 2)) (.bl true) (.tup (.cons (.str "throw") (.cons (.var 4) .nil))))
def q48_2 : E := (.comp false [6] (.name 6) (.rng1 (.call 34 (.cons (.var 0) (.cons (.int 4) .nil)))) (.bl true) (.call 38 (.cons (.var 0) (.cons (.var 1) .nil))))
def b48 : Ss := (.cons (.set 2 (.b1 false .tuple q48_2))
    (.cons (.set 3 (.tup (.cons (.str "row") (.cons (.b1 false .tuple q48_1) .nil))))
    (.cons (.iff (.cmp .ne (.call 26 (.cons (.var 1) (.cons (.var 3) (.cons (.tup (.cons (.str "throw") (.cons (.call 31 (.cons (.var 1) (.cons (.var 2) .nil))) .nil))) .nil)))) (.tup (.cons (.str "alike") .nil))) (.cons (.ret (.bl false))
    .nil) .nil)
    (.cons (.set 4 (.call 38 (.cons (.var 0) (.cons (.var 1) .nil))))
    (.cons (.set 5 (.tup (.cons (.str "choice") (.cons (.b1 false .tuple q48_0) .nil))))
    (.cons (.ret (.cmp .eq (.call 26 (.cons (.var 1) (.cons (.tup (.cons (.str "often") (.cons (.tup (.cons (.str "throw") (.cons (.var 4) .nil))) .nil))) (.cons (.var 5) .nil)))) (.tup (.cons (.str "alike") .nil))))
    .nil))))))
def d48 : Df := ⟨"_law_are_throws", sl [("_law_deck_here" : PySem.Str), ("_law_size" : PySem.Str)], sl [("_law_deck_here" : PySem.Str), ("_law_size" : PySem.Str), ("_law_throws" : PySem.Str), ("_law_row" : PySem.Str), ("_law_throw_here" : PySem.Str), ("_law_powers" : PySem.Str), ("_law_go" : PySem.Str), ("_law_n" : PySem.Str)], b48⟩
/-- 49: _law_are_six; names 0 _law_deck_here, 1 _law_throws, 2 _law_kinds, 3 _law_b, 4 _law_two, 5 _law_told, 6 _law_at, 7 _law_a, 8 _law_kind -/
def q49_0 : E := (.comp false [8] (.name 8) (.seq (.var 2)) (.bl true) (.tup (.cons (.tup (.cons (.var 8) .nil)) (.cons (.int 1) .nil))))
def l49_0 : Ss := (.cons (.expr (.meth .append (.var 1) (.cons (.tup (.cons (.str "throw") (.cons (.b1 false .tuple q49_0) .nil))) .nil)))
    .nil)
def f49_0 : S := (.for (.name 2) (.seq (.lst false (.cons (.tup (.cons (.int 0) (.cons (.int 1) (.cons (.int 2) .nil)))) (.cons (.tup (.cons (.int 0) (.cons (.int 2) (.cons (.int 1) .nil)))) (.cons (.tup (.cons (.int 1) (.cons (.int 0) (.cons (.int 2) .nil)))) (.cons (.tup (.cons (.int 2) (.cons (.int 0) (.cons (.int 1) .nil)))) (.cons (.tup (.cons (.int 1) (.cons (.int 2) (.cons (.int 0) .nil)))) (.cons (.tup (.cons (.int 2) (.cons (.int 1) (.cons (.int 0) .nil)))) .nil)))))))) l49_0)
def b49 : Ss := (.cons (.set 1 (.lst true .nil))
    (.cons f49_0
    (.cons (.par [6, 7] (.cons (.call 34 (.cons (.var 0) (.cons (.int 6) .nil))) (.cons (.call 34 (.cons (.var 0) (.cons (.int 3) .nil))) .nil)))
    (.cons (.set 3 (.bin .mod (.b1 false .int (.bin .add (.bin .add (.var 7) (.int 1)) (.call 34 (.cons (.var 0) (.cons (.int 2) .nil))))) (.int 3)))
    (.cons (.set 4 (.tup (.cons (.str "choice") (.cons (.tup (.cons (.ix (.var 1) (.var 6)) (.cons (.ix (.var 1) (.bin .sub (.int 5) (.var 6))) .nil))) .nil))))
    (.cons (.set 5 (.call 23 (.cons (.int 3) (.cons (.tup (.cons (.str "choice") (.cons (.b1 false .tuple (.var 1)) .nil))) (.cons (.var 7) (.cons (.var 3) .nil))))))
    (.cons (.ret (.and (.call 37 (.cons (.var 5) (.cons (.tup (.cons (.str "ahead") (.cons (.str "behind") .nil))) .nil))) (.call 37 (.cons (.call 23 (.cons (.int 3) (.cons (.var 4) (.cons (.var 7) (.cons (.var 3) .nil))))) (.cons (.var 5) .nil)))))
    .nil)))))))
def d49 : Df := ⟨"_law_are_six", sl [("_law_deck_here" : PySem.Str)], sl [("_law_deck_here" : PySem.Str), ("_law_throws" : PySem.Str), ("_law_kinds" : PySem.Str), ("_law_b" : PySem.Str), ("_law_two" : PySem.Str), ("_law_told" : PySem.Str), ("_law_at" : PySem.Str), ("_law_a" : PySem.Str), ("_law_kind" : PySem.Str)], b49⟩
/-- 50: law; names 0 _law_script, 1 _law_deck_here, 2 _law_size, 3 _law_same_here, 4 _law_p, 5 _law_q, 6 _law_r, 7 _law_one, 8 _law_other -/
def l50_0 : Ss := (.cons (.iff (.or (.cmp .ne (.call 26 (.cons (.var 2) (.cons (.var 7) (.cons (.var 8) .nil)))) (.tup (.cons (.str "alike") .nil))) (.cmp .ne (.call 44 (.cons (.var 7) (.cons (.var 8) (.cons (.var 2) .nil)))) (.lst false .nil))) (.cons (.ret (.bl false))
    .nil) .nil)
    .nil)
def f50_0 : S := (.for (.tup [(.name 7), (.name 8)]) (.seq (.call 36 (.cons (.var 1) (.cons (.call 47 (.cons (.var 1) (.cons (.var 2) (.cons (.var 4) (.cons (.var 5) (.cons (.var 6) .nil)))))) (.cons (.int 3) .nil))))) l50_0)
def b50 : Ss := (.cons (.set 1 (.call 33 (.cons (.var 0) (.cons (.int 82) .nil))))
    (.cons (.set 2 (.call 35 (.cons (.var 1) (.cons (.lst false (.cons (.int 2) (.cons (.int 3) (.cons (.int 4) (.cons (.int 5) (.cons (.int 2) (.cons (.int 3) (.cons (.int 1) (.cons (.int 4) (.cons (.int 2) (.cons (.int 3) (.cons (.int 4) (.cons (.int 5) (.cons (.int 2) (.cons (.int 3) (.cons (.int 6) (.cons (.int 7) (.cons (.int 8) .nil)))))))))))))))))) .nil))))
    (.cons (.par [4, 5, 6] (.cons (.call 40 (.cons (.var 1) (.cons (.var 2) (.cons (.int 3) (.cons (.int 8) .nil))))) (.cons (.call 40 (.cons (.var 1) (.cons (.var 2) (.cons (.int 2) (.cons (.int 4) .nil))))) (.cons (.call 40 (.cons (.var 1) (.cons (.var 2) (.cons (.int 2) (.cons (.int 4) .nil))))) .nil))))
    (.cons (.iff (.or (.not (.call 46 (.cons (.var 1) (.cons (.var 2) (.cons (.var 4) (.cons (.var 5) (.cons (.bl true) .nil))))))) (.not (.call 46 (.cons (.var 1) (.cons (.var 2) (.cons (.var 5) (.cons (.tup (.cons (.str "choice") (.cons (.tup (.cons (.var 6) (.cons (.var 5) .nil))) .nil))) (.cons (.bl false) .nil)))))))) (.cons (.ret (.bl false))
    .nil) .nil)
    (.cons f50_0
    (.cons (.set 3 (.cmp .eq (.call 26 (.cons (.var 2) (.cons (.var 4) (.cons (.var 5) .nil)))) (.tup (.cons (.str "alike") .nil))))
    (.cons (.iff (.and (.var 3) (.cmp .ne (.call 26 (.cons (.var 2) (.cons (.tup (.cons (.str "row") (.cons (.tup (.cons (.var 6) (.cons (.var 4) .nil))) .nil))) (.cons (.tup (.cons (.str "row") (.cons (.tup (.cons (.var 6) (.cons (.var 5) .nil))) .nil))) .nil)))) (.tup (.cons (.str "alike") .nil)))) (.cons (.ret (.bl false))
    .nil) .nil)
    (.cons (.iff (.and (.var 3) (.cmp .ne (.call 26 (.cons (.var 2) (.cons (.tup (.cons (.str "choice") (.cons (.tup (.cons (.var 6) (.cons (.var 4) .nil))) .nil))) (.cons (.tup (.cons (.str "choice") (.cons (.tup (.cons (.var 6) (.cons (.var 5) .nil))) .nil))) .nil)))) (.tup (.cons (.str "alike") .nil)))) (.cons (.ret (.bl false))
    .nil) .nil)
    (.cons (.ret (.and (.call 48 (.cons (.var 1) (.cons (.var 2) .nil))) (.call 49 (.cons (.var 1) .nil))))
    .nil)))))))))
def d50 : Df := ⟨"law", sl [("_law_script" : PySem.Str)], sl [("_law_script" : PySem.Str), ("_law_deck_here" : PySem.Str), ("_law_size" : PySem.Str), ("_law_same_here" : PySem.Str), ("_law_p" : PySem.Str), ("_law_q" : PySem.Str), ("_law_r" : PySem.Str), ("_law_one" : PySem.Str), ("_law_other" : PySem.Str)], b50⟩
def defs : List Df := [d0, d1, d2, d3, d4, d5, d6, d7, d8, d9, d10, d11, d12, d13, d14, d15, d16, d17, d18, d19, d20, d21, d22, d23, d24, d25, d26, d27, d28, d29, d30, d31, d32, d33, d34, d35, d36, d37, d38, d39, d40, d41, d42, d43, d44, d45, d46, d47, d48, d49, d50]
def glT : List (PySem.Str × D) := [("MOST_SIZE", (.int 8)), ("AHEAD", (.str "ahead")), ("BEHIND", (.str "behind")), ("KEPT", (.str "kept")), ("TURNED", (.str "turned")), ("MOST_PARTS", (.int 40)), ("MOST_DEEP", (.int 6)), ("SAME", (.tup [(.tup [(.bl true), (.bl false)]), (.tup [(.bl false), (.bl true)])])), ("ANYHOW", (.tup [(.tup [(.bl true), (.bl true)]), (.tup [(.bl true), (.bl true)])])), ("MOST_THROWS", (.int 60))]
def gdT : List (PySem.Str × List (PySem.Str × D)) := [("BY_WAY", [("ahead", (.tup [(.tup [(.bl true), (.bl false)]), (.tup [(.bl true), (.bl false)])])), ("behind", (.tup [(.tup [(.bl false), (.bl true)]), (.tup [(.bl false), (.bl true)])])), ("kept", (.tup [(.tup [(.bl true), (.bl false)]), (.tup [(.bl false), (.bl true)])])), ("turned", (.tup [(.tup [(.bl false), (.bl true)]), (.tup [(.bl true), (.bl false)])]))])]
def kws : List (Nat × List PySem.Str × List Nat) := [(27, [("thing" : PySem.Str), ("other" : PySem.Str), ("one" : PySem.Str), ("size" : PySem.Str)], [3, 2, 1, 0]), (26, [("other" : PySem.Str), ("one" : PySem.Str), ("size" : PySem.Str)], [2, 1, 0])]
def prg : Prg := ⟨defs, lk glT, lk gdT⟩
end K82
set_option Elab.async false
set_option linter.all false
set_option maxRecDepth 100000
set_option maxHeartbeats 4000000
/-! k82: what is meant. -/
namespace K82
open PySem PySem.Spec PyProof.Rows L2 Ev
/-! ### links -/
structure Mx where
  a : Bool
  b : Bool
  c : Bool
  d : Bool
def Mx.thn (x y : Mx) : Mx := ⟨x.a && y.a || (x.b && y.c), x.a && y.b || (x.b && y.d), x.c && y.a || (x.d && y.c), x.c && y.b || (x.d && y.d)⟩
def Mx.or (x y : Mx) : Mx := ⟨x.a || y.a, x.b || y.b, x.c || y.c, x.d || y.d⟩
def Mx.swap (x : Mx) : Mx := ⟨x.d, x.c, x.b, x.a⟩
def mSame : Mx := ⟨true, false, false, true⟩
def mAny : Mx := ⟨true, true, true, true⟩
def mAhead : Mx := ⟨true, false, true, false⟩
def mBehind : Mx := ⟨false, true, false, true⟩
def mTurn : Mx := ⟨false, true, true, false⟩
def mD (x : Mx) : D := .tup [.tup [.bl x.a, .bl x.b], .tup [.bl x.c, .bl x.d]]
theorem thn_assoc (x y z : Mx) : (x.thn y).thn z = x.thn (y.thn z) := by
  obtain ⟨a, b, c, d⟩ := x; obtain ⟨e, f, g, h⟩ := y; obtain ⟨i, j, k, l⟩ := z
  simp only [Mx.thn, Mx.mk.injEq]
  revert a b c d e f g h i j k l
  decide +kernel
theorem same_thn (x : Mx) : mSame.thn x = x := by
  obtain ⟨a, b, c, d⟩ := x
  simp [Mx.thn, mSame]
theorem thn_same (x : Mx) : x.thn mSame = x := by
  obtain ⟨a, b, c, d⟩ := x
  simp [Mx.thn, mSame]
theorem or_assoc (x y z : Mx) : (x.or y).or z = x.or (y.or z) := by
  simp [Mx.or, Bool.or_assoc]
theorem or_comm (x y : Mx) : x.or y = y.or x := by
  simp [Mx.or, Bool.or_comm]
theorem or_self (x : Mx) : x.or x = x := by
  simp [Mx.or]
theorem or_thn (x y z : Mx) : (x.or y).thn z = (x.thn z).or (y.thn z) := by
  obtain ⟨a, b, c, d⟩ := x; obtain ⟨e, f, g, h⟩ := y; obtain ⟨i, j, k, l⟩ := z
  simp only [Mx.thn, Mx.or, Mx.mk.injEq]
  revert a b c d e f g h i j k l
  decide +kernel
theorem thn_or (x y z : Mx) : z.thn (x.or y) = (z.thn x).or (z.thn y) := by
  obtain ⟨a, b, c, d⟩ := x; obtain ⟨e, f, g, h⟩ := y; obtain ⟨i, j, k, l⟩ := z
  simp only [Mx.thn, Mx.or, Mx.mk.injEq]
  revert a b c d e f g h i j k l
  decide +kernel
def Mx.oft (x : Mx) : Mx := (mSame.or x).thn (mSame.or x)
theorem oft_choice (x y : Mx) : (x.or y).oft = ((mSame.thn x.oft).thn y.oft).oft := by
  obtain ⟨a, b, c, d⟩ := x; obtain ⟨e, f, g, h⟩ := y
  simp only [Mx.oft, Mx.thn, Mx.or, mSame, Mx.mk.injEq]
  revert a b c d e f g h
  decide +kernel
theorem oft_pow (x : Mx) : x.oft = ((mSame.or x).or (x.thn x)) := by
  obtain ⟨a, b, c, d⟩ := x
  simp only [Mx.oft, Mx.thn, Mx.or, mSame, Mx.mk.injEq]
  revert a b c d
  decide +kernel
theorem swap_thn (x y : Mx) : (x.thn y).swap = x.swap.thn y.swap := by
  obtain ⟨a, b, c, d⟩ := x; obtain ⟨e, f, g, h⟩ := y
  simp only [Mx.swap, Mx.thn, Mx.mk.injEq]
  revert a b c d e f g h
  decide +kernel
theorem swap_or (x y : Mx) : (x.or y).swap = x.swap.or y.swap := by simp [Mx.swap, Mx.or]
theorem swap_swap (x : Mx) : x.swap.swap = x := rfl
/-! ### throws, programs -/
abbrev Thr := List (List Int × Int)
inductive Pr where
  | throw (t : Thr) | row (ps : List Pr) | choice (ps : List Pr) | often (p : Pr) | parted (k : List Int) (p q : Pr)
def lotD (l : List Int) : D := .tup (l.map D.int)
def partD (x : List Int × Int) : D := .tup [lotD x.1, .int x.2]
def thrD (t : Thr) : D := .tup (t.map partD)
mutual
def prD : Pr → D
  | .throw t => .tup [.str "throw", thrD t]
  | .row ps => .tup [.str "row", .tup (prDs ps)]
  | .choice ps => .tup [.str "choice", .tup (prDs ps)]
  | .often p => .tup [.str "often", prD p]
  | .parted k p q => .tup [.str "parted", lotD k, prD p, prD q]
def prDs : List Pr → List D
  | [] => []
  | p :: ps => prD p :: prDs ps
end
theorem prDs_map : ∀ ps : List Pr, prDs ps = ps.map prD
  | [] => rfl
  | p :: ps => by rw [prDs, prDs_map ps]; rfl
def idx (k : Int) : Thr → Option Nat
  | [] => none
  | x :: t => if k ∈ x.1 then some 0 else (idx k t).map (· + 1)
def wayS (t : Thr) (a b : Int) : PySem.Str := if idx a t ≠ idx b t then (if (idx a t).getD 0 < (idx b t).getD 0 then "ahead" else "behind") else if (t.getD ((idx a t).getD 0) ([], 1)).2 = 1 then "kept" else "turned"
def wayM (t : Thr) (a b : Int) : Mx := if idx a t ≠ idx b t then (if (idx a t).getD 0 < (idx b t).getD 0 then mAhead else mBehind) else if (t.getD ((idx a t).getD 0) ([], 1)).2 = 1 then mSame else mTurn
mutual
def link : Pr → Int → Int → Mx
  | .throw t, a, b => wayM t a b
  | .row ps, a, b => (links ps a b).foldl Mx.thn mSame
  | .choice ps, a, b => (match links ps a b with
    | [] => mSame
    | x :: xs => xs.foldl Mx.or x)
  | .often p, a, b => (link p a b).oft
  | .parted k p q, a, b => if decide (a ∈ k) != decide (b ∈ k) then mAny else if a ∈ k then link p a b else link q a b
def links : List Pr → Int → Int → List Mx
  | [], _, _ => []
  | p :: ps, a, b => link p a b :: links ps a b
end
theorem links_map : ∀ (ps : List Pr) (a b : Int), links ps a b = ps.map fun p => link p a b
  | [], _, _ => rfl
  | p :: ps, a, b => by rw [links, links_map ps]; rfl
/-! ### well made -/
def VLot (n : Nat) (x : List Int × Int) : Prop := (x.2 = 1 ∨ x.2 = -1) ∧ x.1 ≠ [] ∧ x.1.Pairwise (· < ·) ∧ ∀ k ∈ x.1, 0 ≤ k ∧ k < (n : Int)
def rgI (n : Nat) : List Int := (List.range n).map fun (i : Nat) => (i : Int)
structure VThr (n : Nat) (t : Thr) : Prop where
  lot : ∀ x ∈ t, VLot n x
  perm : (t.map (·.1)).flatten.Perm (rgI n)
mutual
def VPr (n : Nat) : Pr → Prop
  | .throw t => VThr n t
  | .row ps => VPrs n ps
  | .choice ps => ps ≠ [] ∧ VPrs n ps
  | .often p => VPr n p
  | .parted k p q => (k.Pairwise (· < ·) ∧ ∀ x ∈ k, 0 ≤ x ∧ x < (n : Int)) ∧ VPr n p ∧ VPr n q
def VPrs (n : Nat) : List Pr → Prop
  | [] => True
  | p :: ps => VPr n p ∧ VPrs n ps
end
theorem VPrs_mem {n : Nat} : ∀ {ps : List Pr}, VPrs n ps ↔ ∀ p ∈ ps, VPr n p
  | [] => by simp [VPrs]
  | p :: ps => by simp [VPrs, VPrs_mem (ps := ps)]
def inner : Pr → List Pr
  | .throw _ => []
  | .row ps => ps
  | .choice ps => ps
  | .often p => [p]
  | .parted _ p q => [p, q]
mutual
def sz : Pr → Nat
  | .throw _ => 1
  | .row ps => szs ps + 1
  | .choice ps => szs ps + 1
  | .often p => sz p + 1
  | .parted _ p q => sz p + sz q + 1
def szs : List Pr → Nat
  | [] => 0
  | p :: ps => sz p + szs ps
end
mutual
def dp : Pr → Nat
  | .throw _ => 1
  | .row ps => dps ps + 1
  | .choice ps => dps ps + 1
  | .often p => dp p + 1
  | .parted _ p q => max (dp p) (dp q) + 1
def dps : List Pr → Nat
  | [] => 0
  | p :: ps => max (dp p) (dps ps)
end
theorem der_lotD (st : Sto) (l : List Int) : der st (lotD l) = lotD l := rfl
theorem der_partD (st : Sto) (l : List Int × Int) : der st (partD l) = partD l := rfl
theorem der_thrD (st : Sto) (l : Thr) : der st (thrD l) = thrD l := rfl
theorem der_mD (st : Sto) (l : Mx) : der st (mD l) = mD l := rfl
theorem der_prD (st : Sto) (p : Pr) : der st (prD p) = prD p := by cases p <;> rfl
theorem seq_lotD (l : List Int) : seqX (lotD l) = some (l.map D.int) := rfl
theorem seq_partD (x : List Int × Int) : seqX (partD x) = some [lotD x.1, .int x.2] := rfl
theorem seq_thrD (l : Thr) : seqX (thrD l) = some (l.map partD) := rfl
/-! ### the data are plain -/
theorem bel_lot (l : List Int) : D.bel 0 (lotD l) = true := bels_all fun d hd => by
  obtain ⟨i, _, rfl⟩ := List.mem_map.mp hd
  rfl
theorem bel_part (x : List Int × Int) : D.bel 0 (partD x) = true := bels_all fun d hd => by
  rcases List.mem_cons.mp hd with rfl | hd
  · exact bel_lot _
  · rw [List.mem_singleton.mp hd]; rfl
theorem bel_thr (t : Thr) : D.bel 0 (thrD t) = true := bels_all fun d hd => by
  obtain ⟨i, _, rfl⟩ := List.mem_map.mp hd
  exact bel_part i
mutual
theorem bel_pr : ∀ p : Pr, D.bel 0 (prD p) = true
  | .throw t => by
    show (true && (D.bel 0 (thrD t) && true)) = true
    rw [bel_thr] <;> rfl
  | .row ps => by
    show (true && (D.bels 0 (prDs ps) && true)) = true
    rw [bel_prs] <;> rfl
  | .choice ps => by
    show (true && (D.bels 0 (prDs ps) && true)) = true
    rw [bel_prs] <;> rfl
  | .often p => by
    show (true && (D.bel 0 (prD p) && true)) = true
    rw [bel_pr] <;> rfl
  | .parted k p q => by
    show (true && (D.bel 0 (lotD k) && (D.bel 0 (prD p) && (D.bel 0 (prD q) && true)))) = true
    rw [bel_lot, bel_pr, bel_pr] <;> rfl
theorem bel_prs : ∀ ps : List Pr, D.bels 0 (prDs ps) = true
  | [] => rfl
  | p :: ps => by
    show (D.bel 0 (prD p) && D.bels 0 (prDs ps)) = true
    rw [bel_pr, bel_prs] <;> rfl
end
theorem bel_m (x : Mx) : D.bel 0 (mD x) = true := rfl
theorem pl_lot (n : Nat) (l : List Int) : D.pl (n + 1) (lotD l) = true := by
  show D.pls n (l.map D.int) = true
  exact pls_of fun d hd => by
    obtain ⟨i, _, rfl⟩ := List.mem_map.mp hd
    rfl
theorem pl_part (n : Nat) (x : List Int × Int) : D.pl (n + 2) (partD x) = true := by
  show (D.pl (n + 1) (lotD x.1) && (true && true)) = true
  rw [pl_lot] <;> rfl
theorem pl_thr (n : Nat) (t : Thr) : D.pl (n + 3) (thrD t) = true := by
  show D.pls (n + 2) (t.map partD) = true
  exact pls_of fun d hd => by
    obtain ⟨i, _, rfl⟩ := List.mem_map.mp hd
    exact pl_part n i
theorem ok_throw : PyData.strOk "throw" = true := by decide +kernel
theorem ok_row : PyData.strOk "row" = true := by decide +kernel
theorem ok_choice : PyData.strOk "choice" = true := by decide +kernel
theorem ok_often : PyData.strOk "often" = true := by decide +kernel
theorem ok_parted : PyData.strOk "parted" = true := by decide +kernel
mutual
theorem pl_pr : ∀ (p : Pr) (n : Nat), D.pl (2 * dp p + 3 + n) (prD p) = true
  | .throw t, n => by
    show D.pl (2 * 1 + 3 + n) (.tup [.str "throw", thrD t]) = true
    rw [show 2 * 1 + 3 + n = (n + 1 + 3) + 1 by omega]
    show (PyData.strOk "throw" && (D.pl (n + 1 + 3) (thrD t) && true)) = true
    rw [pl_thr, ok_throw] <;> rfl
  | .row ps, n => by
    show D.pl (2 * (dps ps + 1) + 3 + n) (.tup [.str "row", .tup (prDs ps)]) = true
    rw [show 2 * (dps ps + 1) + 3 + n = ((2 * dps ps + 3 + n) + 1) + 1 by omega]
    show (PyData.strOk "row" && (D.pls (2 * dps ps + 3 + n) (prDs ps) && true)) = true
    rw [pl_prs ps, ok_row] <;> rfl
  | .choice ps, n => by
    show D.pl (2 * (dps ps + 1) + 3 + n) (.tup [.str "choice", .tup (prDs ps)]) = true
    rw [show 2 * (dps ps + 1) + 3 + n = ((2 * dps ps + 3 + n) + 1) + 1 by omega]
    show (PyData.strOk "choice" && (D.pls (2 * dps ps + 3 + n) (prDs ps) && true)) = true
    rw [pl_prs ps, ok_choice] <;> rfl
  | .often p, n => by
    show D.pl (2 * (dp p + 1) + 3 + n) (.tup [.str "often", prD p]) = true
    rw [show 2 * (dp p + 1) + 3 + n = (2 * dp p + 3 + (n + 1)) + 1 by omega]
    show (PyData.strOk "often" && (D.pl (2 * dp p + 3 + (n + 1)) (prD p) && true)) = true
    rw [pl_pr p, ok_often] <;> rfl
  | .parted k p q, n => by
    show D.pl (2 * (max (dp p) (dp q) + 1) + 3 + n) (.tup [.str "parted", lotD k, prD p, prD q]) = true
    have e0 : 2 * (max (dp p) (dp q) + 1) + 3 + n = (2 * (max (dp p) (dp q)) + 3 + (n + 1)) + 1 := by omega
    rw [e0]
    have h1 : D.pl (2 * (max (dp p) (dp q)) + 3 + (n + 1)) (prD p) = true := by
      have := pl_pr p (2 * (max (dp p) (dp q)) - 2 * dp p + (n + 1))
      rwa [show 2 * dp p + 3 + (2 * (max (dp p) (dp q)) - 2 * dp p + (n + 1)) = 2 * (max (dp p) (dp q)) + 3 + (n + 1) by omega] at this
    have h2 : D.pl (2 * (max (dp p) (dp q)) + 3 + (n + 1)) (prD q) = true := by
      have := pl_pr q (2 * (max (dp p) (dp q)) - 2 * dp q + (n + 1))
      rwa [show 2 * dp q + 3 + (2 * (max (dp p) (dp q)) - 2 * dp q + (n + 1)) = 2 * (max (dp p) (dp q)) + 3 + (n + 1) by omega] at this
    have h3 : D.pl (2 * (max (dp p) (dp q)) + 3 + (n + 1)) (lotD k) = true := by
      rw [show 2 * (max (dp p) (dp q)) + 3 + (n + 1) = (2 * (max (dp p) (dp q)) + 3 + n) + 1 by omega]
      exact pl_lot _ k
    show (PyData.strOk "parted" && (D.pl _ (lotD k) && (D.pl _ (prD p) && (D.pl _ (prD q) && true)))) = true
    rw [h1, h2, h3, ok_parted] <;> rfl
theorem pl_prs : ∀ (ps : List Pr) (n : Nat), D.pls (2 * dps ps + 3 + n) (prDs ps) = true
  | [], _ => rfl
  | p :: ps, n => by
    have h1 : D.pl (2 * (max (dp p) (dps ps)) + 3 + n) (prD p) = true := by
      have := pl_pr p (2 * (max (dp p) (dps ps)) - 2 * dp p + n)
      rwa [show 2 * dp p + 3 + (2 * (max (dp p) (dps ps)) - 2 * dp p + n) = 2 * (max (dp p) (dps ps)) + 3 + n by omega] at this
    have h2 : D.pls (2 * (max (dp p) (dps ps)) + 3 + n) (prDs ps) = true := by
      have := pl_prs ps (2 * (max (dp p) (dps ps)) - 2 * dps ps + n)
      rwa [show 2 * dps ps + 3 + (2 * (max (dp p) (dps ps)) - 2 * dps ps + n) = 2 * (max (dp p) (dps ps)) + 3 + n by omega] at this
    show (D.pl (2 * (max (dp p) (dps ps)) + 3 + n) (prD p) && D.pls (2 * (max (dp p) (dps ps)) + 3 + n) (prDs ps)) = true
    rw [h1, h2] <;> rfl
end
theorem pl60 {p : Pr} (h : dp p ≤ 20) (n : Nat) (hn : 50 ≤ n) : D.pl n (prD p) = true := by
  have := pl_pr p (n - (2 * dp p + 3))
  rwa [show 2 * dp p + 3 + (n - (2 * dp p + 3)) = n by omega] at this
end K82
set_option Elab.async false
set_option linter.all false
set_option maxRecDepth 100000
set_option maxHeartbeats 4000000
namespace K82
open PySem Ev
abbrev cf (k : Nat) : Cfg := ⟨prg.gl, prg.gd, evCall prg k⟩
theorem call_unf (k f : Nat) (d : Df) (xs : List D) (st : Sto) (h : prg.defs[f]? = some d) (hl : xs.length = d.ps.length) : evCall prg (k + 1) f xs st = (evSs (cf k) d.body (xs.map some ++ List.replicate (d.N.length - xs.length) none) st).bind fun (fl, _, st') => match fl with
    | .rt r => some (leave st r st')
    | .nx => some (leave st .non st')
    | .bk => none := by
  show (match prg.defs[f]? with | some d => _ | none => _) = _
  rw [h]
  simp only [hl, if_true]
  try rfl
/-- a call whose body leaves the store -/
theorem call_ret {k f : Nat} {d : Df} {xs : List D} {st ex : Sto} {r : D} {δ : Ev.Env} (h : prg.defs[f]? = some d) (hl : xs.length = d.ps.length) (hb : evSs (cf k) d.body (xs.map some ++ List.replicate (d.N.length - xs.length) none) st = some (.rt r, δ, st ++ ex)) (hr : D.bel 0 r = true) :
    evCall prg (k + 1) f xs st = some (r, st) := by
  rw [call_unf k f d xs st h hl, hb]
  show some (leave st r (st ++ ex)) = _
  rw [leave_tree hr ex]
theorem call_ret0 {k f : Nat} {d : Df} {xs : List D} {st : Sto} {r : D} {δ : Ev.Env} (h : prg.defs[f]? = some d) (hl : xs.length = d.ps.length) (hb : evSs (cf k) d.body (xs.map some ++ List.replicate (d.N.length - xs.length) none) st = some (.rt r, δ, st)) (hr : D.bel 0 r = true) :
    evCall prg (k + 1) f xs st = some (r, st) := call_ret (ex := []) h hl (by rw [List.append_nil]; exact hb) hr
theorem call_nx0 {k f : Nat} {d : Df} {xs : List D} {st : Sto} {δ : Ev.Env} (h : prg.defs[f]? = some d) (hl : xs.length = d.ps.length) (hb : evSs (cf k) d.body (xs.map some ++ List.replicate (d.N.length - xs.length) none) st = some (.nx, δ, st)) :
    evCall prg (k + 1) f xs st = some (.non, st) := by
  rw [call_unf k f d xs st h hl, hb]
  show some (leave st .non st) = _
  rw [leave_tree0 rfl]
theorem e_int0 (k : Nat) (i : Int) (st : Sto) : evCall prg (k + 1) 0 [.int i] st = some (.bl true, st) :=
  call_ret0 (d := d0) rfl rfl (δ := [some (.int i)]) (by simp [d0, b0, sl, evSs, evS, evE, evEs, evI, evG, evGs, setAll, wipeD, isD_int, isD_bool, isD_str, isD_tup, kInt_non, kInt_bl, kInt_int, kInt_str, kInt_tup, kInt_lst, kBool_non, kBool_bl, kBool_int, kBool_str, kBool_tup, kBool_lst, kStr_non, kStr_bl, kStr_int, kStr_str, kStr_tup, kStr_lst, kTup_non, kTup_bl, kTup_int, kTup_str, kTup_tup, kTup_lst, atI_0, atI_1, atI_2, atI_3, cop, bop, b1D, b2D, ixD, seq_eq, seqX_tup, seqX_lst, seqX_scr, derL_eq, lstX_lst, der_loc, derLoc_lst, derLoc_dct, der_non, der_bl, der_int, der_str, der_tup, der_lst, der_scr, methD, mkL, D.isNon, D.isBl, oint, E.isSkip, slD, revD, dgetD, isLstS, truD, ints?, bls?, der_lotD, der_partD, der_thrD, der_mD, der_prD, seq_lotD, seq_partD, seq_thrD]) rfl
theorem e_between (k : Nat) (i a b : Int) (st : Sto) : evCall prg (k + 2) 1 [.int i, .int a, .int b] st = some (.bl (decide (a ≤ i) && decide (i ≤ b)), st) := by
  refine call_ret0 (d := d1) rfl rfl (δ := [some (.int i), some (.int a), some (.int b)]) ?_ rfl
  simp [d1, b1, sl, evSs, evS, evE, evEs, evI, evG, evGs, setAll, wipeD, isD_int, isD_bool, isD_str, isD_tup, kInt_non, kInt_bl, kInt_int, kInt_str, kInt_tup, kInt_lst, kBool_non, kBool_bl, kBool_int, kBool_str, kBool_tup, kBool_lst, kStr_non, kStr_bl, kStr_int, kStr_str, kStr_tup, kStr_lst, kTup_non, kTup_bl, kTup_int, kTup_str, kTup_tup, kTup_lst, atI_0, atI_1, atI_2, atI_3, cop, bop, b1D, b2D, ixD, seq_eq, seqX_tup, seqX_lst, seqX_scr, derL_eq, lstX_lst, der_loc, derLoc_lst, derLoc_dct, der_non, der_bl, der_int, der_str, der_tup, der_lst, der_scr, methD, mkL, D.isNon, D.isBl, oint, E.isSkip, slD, revD, dgetD, isLstS, truD, ints?, bls?, der_lotD, der_partD, der_thrD, der_mD, der_prD, seq_lotD, seq_partD, seq_thrD, e_int0]
  by_cases h : a ≤ i <;> simp [h]
theorem q2_0_eq (k : Nat) (l : List Int) (a b : Int) (st : Sto) (hl : l.length ≤ LIM) : evE (cf (k + 2)) q2_0 [some (lotD l), some (.int a), some (.int b), none] st = some (.lst (l.map fun i => .bl (decide (a ≤ i) && decide (i ≤ b))), st) :=
  evE_comp (w := ⟨l.map D.int, keeps (lotD l) (l.map D.int)⟩) rfl (evC_mapL D.int _ rfl fun i _ => ⟨_, rfl, rfl, by simp [sl, evSs, evS, evE, evEs, evI, evG, evGs, setAll, wipeD, isD_int, isD_bool, isD_str, isD_tup, kInt_non, kInt_bl, kInt_int, kInt_str, kInt_tup, kInt_lst, kBool_non, kBool_bl, kBool_int, kBool_str, kBool_tup, kBool_lst, kStr_non, kStr_bl, kStr_int, kStr_str, kStr_tup, kStr_lst, kTup_non, kTup_bl, kTup_int, kTup_str, kTup_tup, kTup_lst, atI_0, atI_1, atI_2, atI_3, cop, bop, b1D, b2D, ixD, seq_eq, seqX_tup, seqX_lst, seqX_scr, derL_eq, lstX_lst, der_loc, derLoc_lst, derLoc_dct, der_non, der_bl, der_int, der_str, der_tup, der_lst, der_scr, methD, mkL, D.isNon, D.isBl, oint, E.isSkip, slD, revD, dgetD, isLstS, truD, ints?, bls?, der_lotD, der_partD, der_thrD, der_mD, der_prD, seq_lotD, seq_partD, seq_thrD, e_between]⟩) (mkL_ok (by simpa using hl))
theorem e_are_between (k : Nat) (l : List Int) (a b : Int) (st : Sto) (hl : l.length ≤ LIM) : evCall prg (k + 3) 2 [lotD l, .int a, .int b] st = some (.bl (l.all fun i => decide (a ≤ i) && decide (i ≤ b)), st) := by
  refine call_ret0 (d := d2) rfl rfl (δ := [some (lotD l), some (.int a), some (.int b), none]) ?_ rfl
  have h1 : kTup (lotD l) = true := rfl
  simp [d2, b2, sl, evSs, evS, evE, evEs, evI, evG, evGs, setAll, wipeD, isD_int, isD_bool, isD_str, isD_tup, kInt_non, kInt_bl, kInt_int, kInt_str, kInt_tup, kInt_lst, kBool_non, kBool_bl, kBool_int, kBool_str, kBool_tup, kBool_lst, kStr_non, kStr_bl, kStr_int, kStr_str, kStr_tup, kStr_lst, kTup_non, kTup_bl, kTup_int, kTup_str, kTup_tup, kTup_lst, atI_0, atI_1, atI_2, atI_3, cop, bop, b1D, b2D, ixD, seq_eq, seqX_tup, seqX_lst, seqX_scr, derL_eq, lstX_lst, der_loc, derLoc_lst, derLoc_dct, der_non, der_bl, der_int, der_str, der_tup, der_lst, der_scr, methD, mkL, D.isNon, D.isBl, oint, E.isSkip, slD, revD, dgetD, isLstS, truD, ints?, bls?, der_lotD, der_partD, der_thrD, der_mD, der_prD, seq_lotD, seq_partD, seq_thrD, h1, q2_0_eq k l a b st hl, bls_map, map_all]
theorem ok_alike : PyData.strOk "alike" = true := by decide +kernel
theorem ok_unlike : PyData.strOk "unlike" = true := by decide +kernel
theorem ok_ahead : PyData.strOk "ahead" = true := by decide +kernel
theorem ok_behind : PyData.strOk "behind" = true := by decide +kernel
theorem deq_str (a b : PySem.Str) (ha : PyData.strOk a = true) (hb : PyData.strOk b = true) : deq (.str a) (.str b) = some (decide (a = b)) := by
  rw [deq_pl (by unfold D.pl; exact ha) (by unfold D.pl; exact hb)]
  rfl
theorem deq_int (a b : Int) : deq (.int a) (.int b) = some (decide (a = b)) := by
  rw [deq_pl rfl rfl]
  show some (a == b) = _
  by_cases h : a = b <;> simp [h]
theorem e_word (k : Nat) (s w : PySem.Str) (r : List D) (st : Sto) (hs : PyData.strOk s = true) (hw : PyData.strOk w = true) : evCall prg (k + 1) 3 [.tup (.str s :: r), .str w] st = some (.bl (decide (s = w)), st) := by
  refine call_ret0 (d := d3) rfl rfl (δ := [some (.tup (.str s :: r)), some (.str w)]) ?_ rfl
  have h1 : (0 : Int) < (r.length : Int) + 1 := by omega
  simp [d3, b3, sl, evSs, evS, evE, evEs, evI, evG, evGs, setAll, wipeD, isD_int, isD_bool, isD_str, isD_tup, kInt_non, kInt_bl, kInt_int, kInt_str, kInt_tup, kInt_lst, kBool_non, kBool_bl, kBool_int, kBool_str, kBool_tup, kBool_lst, kStr_non, kStr_bl, kStr_int, kStr_str, kStr_tup, kStr_lst, kTup_non, kTup_bl, kTup_int, kTup_str, kTup_tup, kTup_lst, atI_0, atI_1, atI_2, atI_3, cop, bop, b1D, b2D, ixD, seq_eq, seqX_tup, seqX_lst, seqX_scr, derL_eq, lstX_lst, der_loc, derLoc_lst, derLoc_dct, der_non, der_bl, der_int, der_str, der_tup, der_lst, der_scr, methD, mkL, D.isNon, D.isBl, oint, E.isSkip, slD, revD, dgetD, isLstS, truD, ints?, bls?, der_lotD, der_partD, der_thrD, der_mD, der_prD, seq_lotD, seq_partD, seq_thrD, deq_str _ _ hs hw, h1]
theorem e_size (k : Nat) (n : Int) (st : Sto) : evCall prg (k + 3) 4 [.int n] st = some (.bl (decide (1 ≤ n) && decide (n ≤ 8)), st) := by
  refine call_ret0 (d := d4) rfl rfl (δ := [some (.int n)]) ?_ rfl
  have hg : prg.gl "MOST_SIZE" = some (.int 8) := rfl
  simp [d4, b4, sl, evSs, evS, evE, evEs, evI, evG, evGs, setAll, wipeD, isD_int, isD_bool, isD_str, isD_tup, kInt_non, kInt_bl, kInt_int, kInt_str, kInt_tup, kInt_lst, kBool_non, kBool_bl, kBool_int, kBool_str, kBool_tup, kBool_lst, kStr_non, kStr_bl, kStr_int, kStr_str, kStr_tup, kStr_lst, kTup_non, kTup_bl, kTup_int, kTup_str, kTup_tup, kTup_lst, atI_0, atI_1, atI_2, atI_3, cop, bop, b1D, b2D, ixD, seq_eq, seqX_tup, seqX_lst, seqX_scr, derL_eq, lstX_lst, der_loc, derLoc_lst, derLoc_dct, der_non, der_bl, der_int, der_str, der_tup, der_lst, der_scr, methD, mkL, D.isNon, D.isBl, oint, E.isSkip, slD, revD, dgetD, isLstS, truD, ints?, bls?, der_lotD, der_partD, der_thrD, der_mD, der_prD, seq_lotD, seq_partD, seq_thrD, hg, e_between]
theorem e_need_size (k : Nat) (n : Int) (st : Sto) (h1 : 1 ≤ n) (h2 : n ≤ 8) : evCall prg (k + 4) 7 [.int n] st = some (.non, st) :=
  call_nx0 (d := d7) rfl rfl (δ := [some (.int n)]) (by simp [d7, b7, sl, evSs, evS, evE, evEs, evI, evG, evGs, setAll, wipeD, isD_int, isD_bool, isD_str, isD_tup, kInt_non, kInt_bl, kInt_int, kInt_str, kInt_tup, kInt_lst, kBool_non, kBool_bl, kBool_int, kBool_str, kBool_tup, kBool_lst, kStr_non, kStr_bl, kStr_int, kStr_str, kStr_tup, kStr_lst, kTup_non, kTup_bl, kTup_int, kTup_str, kTup_tup, kTup_lst, atI_0, atI_1, atI_2, atI_3, cop, bop, b1D, b2D, ixD, seq_eq, seqX_tup, seqX_lst, seqX_scr, derL_eq, lstX_lst, der_loc, derLoc_lst, derLoc_dct, der_non, der_bl, der_int, der_str, der_tup, der_lst, der_scr, methD, mkL, D.isNon, D.isBl, oint, E.isSkip, slD, revD, dgetD, isLstS, truD, ints?, bls?, der_lotD, der_partD, der_thrD, der_mD, der_prD, seq_lotD, seq_partD, seq_thrD, e_size, h1, h2])
theorem e_need_kind (k : Nat) (n i : Int) (st : Sto) (h1 : 0 ≤ i) (h2 : i < n) : evCall prg (k + 3) 9 [.int n, .int i] st = some (.non, st) :=
  call_nx0 (d := d9) rfl rfl (δ := [some (.int n), some (.int i)]) (by
    have h3 : i ≤ n - 1 := by omega
    simp [d9, b9, sl, evSs, evS, evE, evEs, evI, evG, evGs, setAll, wipeD, isD_int, isD_bool, isD_str, isD_tup, kInt_non, kInt_bl, kInt_int, kInt_str, kInt_tup, kInt_lst, kBool_non, kBool_bl, kBool_int, kBool_str, kBool_tup, kBool_lst, kStr_non, kStr_bl, kStr_int, kStr_str, kStr_tup, kStr_lst, kTup_non, kTup_bl, kTup_int, kTup_str, kTup_tup, kTup_lst, atI_0, atI_1, atI_2, atI_3, cop, bop, b1D, b2D, ixD, seq_eq, seqX_tup, seqX_lst, seqX_scr, derL_eq, lstX_lst, der_loc, derLoc_lst, derLoc_dct, der_non, der_bl, der_int, der_str, der_tup, der_lst, der_scr, methD, mkL, D.isNon, D.isBl, oint, E.isSkip, slD, revD, dgetD, isLstS, truD, ints?, bls?, der_lotD, der_partD, der_thrD, der_mD, der_prD, seq_lotD, seq_partD, seq_thrD, e_between, h1, h3])
theorem e_need_number (k : Nat) (i : Int) (st : Sto) (h1 : 0 ≤ i) : evCall prg (k + 2) 10 [.int i] st = some (.non, st) :=
  call_nx0 (d := d10) rfl rfl (δ := [some (.int i)]) (by
    have h3 : ¬ i < 0 := by omega
    simp [d10, b10, sl, evSs, evS, evE, evEs, evI, evG, evGs, setAll, wipeD, isD_int, isD_bool, isD_str, isD_tup, kInt_non, kInt_bl, kInt_int, kInt_str, kInt_tup, kInt_lst, kBool_non, kBool_bl, kBool_int, kBool_str, kBool_tup, kBool_lst, kStr_non, kStr_bl, kStr_int, kStr_str, kStr_tup, kStr_lst, kTup_non, kTup_bl, kTup_int, kTup_str, kTup_tup, kTup_lst, atI_0, atI_1, atI_2, atI_3, cop, bop, b1D, b2D, ixD, seq_eq, seqX_tup, seqX_lst, seqX_scr, derL_eq, lstX_lst, der_loc, derLoc_lst, derLoc_dct, der_non, der_bl, der_int, der_str, der_tup, der_lst, der_scr, methD, mkL, D.isNon, D.isBl, oint, E.isSkip, slD, revD, dgetD, isLstS, truD, ints?, bls?, der_lotD, der_partD, der_thrD, der_mD, der_prD, seq_lotD, seq_partD, seq_thrD, e_int0, h3])
end K82
set_option Elab.async false
set_option linter.all false
set_option maxRecDepth 100000
set_option maxHeartbeats 4000000
namespace K82
open PySem Ev
theorem inD_ints (k : Int) : ∀ l : List Int, inD (.int k) (l.map D.int) = some (decide (k ∈ l))
  | [] => rfl
  | x :: l => by
    show (match deq (.int x) (.int k), inD (.int k) (l.map D.int) with
      | some b, some c => some (b || c)
      | _, _ => none) = _
    rw [deq_int, inD_ints k l]
    show some (decide (x = k) || decide (k ∈ l)) = _
    congr 1
    by_cases h : x = k
    · subst h; simp
    · have h2 : ¬ k = x := fun z => h z.symm
      simp [h, h2]
theorem same_ints : ∀ (a b : List Int), D.sames (a.map D.int) (b.map D.int) = decide (a = b)
  | [], [] => rfl
  | [], _ :: _ => rfl
  | _ :: _, [] => rfl
  | x :: a, y :: b => by
    show (x == y && D.sames (a.map D.int) (b.map D.int)) = _
    rw [same_ints a b]
    by_cases h : x = y <;> by_cases h2 : a = b <;> simp [h, h2]
theorem deq_lots (a b : List Int) : deq (lotD a) (lotD b) = some (decide (a = b)) := by
  rw [deq_pl (pl_lot 59 a) (pl_lot 59 b)]
  show some (D.sames (a.map D.int) (b.map D.int)) = _
  rw [same_ints]
theorem deq_lsts (a b : List Int) : deq (.lst (a.map D.int)) (.lst (b.map D.int)) = some (decide (a = b)) := by
  have h : ∀ l : List Int, D.pl 60 (.lst (l.map D.int)) = true := fun l => pl_lot 59 l
  rw [deq_pl (h a) (h b)]
  show some (D.sames (a.map D.int) (b.map D.int)) = _
  rw [same_ints]
theorem get_last (st : Sto) (x : SO) : (st ++ [x])[st.length]? = some x := by simp
theorem set_last (st : Sto) (x y : SO) : (st ++ [x]).set st.length y = st ++ [y] := by
  rw [List.set_append_right _ _ (Nat.le_refl _)]
  simp
/-! ### 5 -/
theorem q5_0_eq (k : Nat) (z : Option D) (l : List Int) (st : Sto) (hl : l.length ≤ LIM) : evE (cf k) q5_0 [z, some (lotD l), none] st = some (.lst ((List.range (l.length - 1)).map fun (i : Nat) => .bl (decide (l.getD i 0 < l.getD (i + 1) 0))), st) := by
  have hi : evI (cf k) (.rng2 (.int 1) (.b1 false .len (.var 1))) [z, some (lotD l), none] st = some (⟨(List.range (l.length - 1)).map fun (i : Nat) => D.int (1 + (i : Int)), fun _ => true⟩, st) := by
    have e1 : ((l.length : Int) - 1).toNat = l.length - 1 := by omega
    have e2 : -(LIM : Int) ≤ (l.length : Int) := by omega
    have e3 : (l.length : Int) ≤ (LIM : Int) := by omega
    have e4 : -(LIM : Int) ≤ 1 := by unfold LIM; omega
    have e5 : (1 : Int) ≤ (LIM : Int) := by unfold LIM; omega
    simp [sl, evSs, evS, evE, evEs, evI, evG, evGs, setAll, wipeD, isD_int, isD_bool, isD_str, isD_tup, kInt_non, kInt_bl, kInt_int, kInt_str, kInt_tup, kInt_lst, kBool_non, kBool_bl, kBool_int, kBool_str, kBool_tup, kBool_lst, kStr_non, kStr_bl, kStr_int, kStr_str, kStr_tup, kStr_lst, kTup_non, kTup_bl, kTup_int, kTup_str, kTup_tup, kTup_lst, atI_0, atI_1, atI_2, atI_3, cop, bop, b1D, b2D, ixD, seq_eq, seqX_tup, seqX_lst, seqX_scr, derL_eq, lstX_lst, der_loc, derLoc_lst, derLoc_dct, der_non, der_bl, der_int, der_str, der_tup, der_lst, der_scr, methD, mkL, D.isNon, D.isBl, oint, E.isSkip, slD, revD, dgetD, isLstS, truD, ints?, bls?, der_lotD, der_partD, der_thrD, der_mD, der_prD, seq_lotD, seq_partD, seq_thrD, lotD, rng2D, e1, e2, e3, e4, e5]
  refine evE_comp hi (evC_mapL (fun (i : Nat) => D.int (1 + (i : Int))) _ rfl fun i hi => ⟨_, rfl, rfl, ?_⟩) (mkL_ok (by simp; omega))
  have hi2 : i < l.length - 1 := List.mem_range.mp hi
  have h1 : L2.atI (l.map D.int) (1 + (i : Int) - 1) = some (.int (l.getD i 0)) := by
    rw [show 1 + (i : Int) - 1 = (i : Int) by omega, atI_nat _ _ (by simp; omega)]
    rw [List.getElem?_map, List.getElem?_eq_getElem (by omega), List.getD_eq_getElem?_getD, List.getElem?_eq_getElem (by omega)]
    rfl
  have h2 : L2.atI (l.map D.int) (1 + (i : Int)) = some (.int (l.getD (i + 1) 0)) := by
    rw [show 1 + (i : Int) = ((i + 1 : Nat) : Int) by omega, atI_nat _ _ (by simp; omega)]
    rw [List.getElem?_map, List.getElem?_eq_getElem (by omega), List.getD_eq_getElem?_getD, List.getElem?_eq_getElem (by omega)]
    rfl
  simp [sl, evSs, evS, evE, evEs, evI, evG, evGs, setAll, wipeD, isD_int, isD_bool, isD_str, isD_tup, kInt_non, kInt_bl, kInt_int, kInt_str, kInt_tup, kInt_lst, kBool_non, kBool_bl, kBool_int, kBool_str, kBool_tup, kBool_lst, kStr_non, kStr_bl, kStr_int, kStr_str, kStr_tup, kStr_lst, kTup_non, kTup_bl, kTup_int, kTup_str, kTup_tup, kTup_lst, atI_0, atI_1, atI_2, atI_3, cop, bop, b1D, b2D, ixD, seq_eq, seqX_tup, seqX_lst, seqX_scr, derL_eq, lstX_lst, der_loc, derLoc_lst, derLoc_dct, der_non, der_bl, der_int, der_str, der_tup, der_lst, der_scr, methD, mkL, D.isNon, D.isBl, oint, E.isSkip, slD, revD, dgetD, isLstS, truD, ints?, bls?, der_lotD, der_partD, der_thrD, der_mD, der_prD, seq_lotD, seq_partD, seq_thrD, lotD, h1, h2]
theorem pair_all {l : List Int} (h : l.Pairwise (· < ·)) : ((List.range (l.length - 1)).all fun (i : Nat) => decide (l.getD i 0 < l.getD (i + 1) 0)) = true := by
  rw [List.all_eq_true]
  intro i hi
  have hi2 : i < l.length - 1 := List.mem_range.mp hi
  rw [decide_eq_true_eq, List.getD_eq_getElem?_getD, List.getD_eq_getElem?_getD, List.getElem?_eq_getElem (by omega), List.getElem?_eq_getElem (by omega)]
  exact List.pairwise_iff_getElem.mp h i (i + 1) (by omega) (by omega) (by omega)
theorem len_le {l : List Int} {n : Nat} (h : l.Pairwise (· < ·)) (h2 : ∀ k ∈ l, 0 ≤ k ∧ k < (n : Int)) : l.length ≤ n := by
  have := len_range h h2
  omega
theorem e_lot_value {n : Nat} (hn : n ≤ 8) (k : Nat) (x : List Int × Int) (hx : VLot n x) (st : Sto) : evCall prg (k + 4) 5 [partD x] st = some (.bl true, st) := by
  obtain ⟨h1, h2, h3, h4⟩ := hx
  have hl := len_le h3 h4
  have lim : x.1.length ≤ LIM := by unfold LIM; omega
  refine call_ret0 (d := d5) rfl rfl (δ := [some (partD x), some (lotD x.1), none]) ?_ rfl
  have hg : prg.gl "MOST_SIZE" = some (.int 8) := rfl
  have k1 : inD (.int x.2) [.int 1, .int (-1)] = some true := by
    have := inD_ints x.2 [1, -1]
    rcases h1 with h | h <;> simpa [h] using this
  have k2 : deq (lotD x.1) (.tup []) = some false := by
    have := deq_lots x.1 []
    simpa [lotD, h2] using this
  have k3 : (x.1.all fun i => decide (0 ≤ i) && decide (i ≤ 7)) = true := by
    rw [List.all_eq_true]
    intro i hi
    have := h4 i hi
    simp; omega
  have q := q5_0_eq (k + 3) (some (partD x)) x.1 st lim
  have hp := pair_all h3
  have e2 := e_are_between k x.1 0 7 st lim
  rw [k3] at e2
  have hk : deq (.int 2) (.int 2) = some true := by rw [deq_int]; rfl
  simp only [partD] at q ⊢
  simp [d5, b5, sl, evSs, evS, evE, evEs, evI, evG, evGs, setAll, wipeD, isD_int, isD_bool, isD_str, isD_tup, kInt_non, kInt_bl, kInt_int, kInt_str, kInt_tup, kInt_lst, kBool_non, kBool_bl, kBool_int, kBool_str, kBool_tup, kBool_lst, kStr_non, kStr_bl, kStr_int, kStr_str, kStr_tup, kStr_lst, kTup_non, kTup_bl, kTup_int, kTup_str, kTup_tup, kTup_lst, atI_0, atI_1, atI_2, atI_3, cop, bop, b1D, b2D, ixD, seq_eq, seqX_tup, seqX_lst, seqX_scr, derL_eq, lstX_lst, der_loc, derLoc_lst, derLoc_dct, der_non, der_bl, der_int, der_str, der_tup, der_lst, der_scr, methD, mkL, D.isNon, D.isBl, oint, E.isSkip, slD, revD, dgetD, isLstS, truD, ints?, bls?, der_lotD, der_partD, der_thrD, der_mD, der_prD, seq_lotD, seq_partD, seq_thrD, hg, k1, hk, e_int0, e2, k2, q, bls_map, map_all]
  simpa using hp
/-! ### 6 -/
def flat (t : Thr) : List Int := (t.map (·.1)).flatten
theorem f6_loop (k n : Nat) (st : Sto) (ok : Sto → Bool) (hok : ∀ s, ok s = true) (x : Option D) (hn : st.length = n) : ∀ (t : Thr) (acc : List Int) (a b : Option D), acc.length + (flat t).length ≤ LIM →
    ∃ a' b', evFor (evG (.tup [.name 2, .name 3])) (evSs (cf k) l6_0) ok (t.map partD) [x, some (.loc n), a, b, none] (st ++ [.lst (acc.map D.int)]) = some (.nx, [x, some (.loc n), a', b', none], st ++ [.lst ((acc ++ flat t).map D.int)])
  | [], acc, a, b, h => ⟨a, b, by simp [evFor, hok, flat]⟩
  | p :: t, acc, a, b, h => by
    have hf : flat (p :: t) = p.1 ++ flat t := by simp [flat]
    rw [hf] at h ⊢
    rw [List.length_append] at h
    obtain ⟨a', b', ih⟩ := f6_loop k n st ok hok x hn t (acc ++ p.1) (some (lotD p.1)) (some (.int p.2)) (by rw [List.length_append]; omega)
    refine ⟨a', b', ?_⟩
    rw [List.map_cons, evFor_cons (hok _) (δ1 := [x, some (.loc n), some (lotD p.1), some (.int p.2), none]) (δ2 := [x, some (.loc n), some (lotD p.1), some (.int p.2), none]) (st2 := st ++ [.lst ((acc ++ p.1).map D.int)]) (by simp [sl, evSs, evS, evE, evEs, evI, evG, evGs, setAll, wipeD, isD_int, isD_bool, isD_str, isD_tup, kInt_non, kInt_bl, kInt_int, kInt_str, kInt_tup, kInt_lst, kBool_non, kBool_bl, kBool_int, kBool_str, kBool_tup, kBool_lst, kStr_non, kStr_bl, kStr_int, kStr_str, kStr_tup, kStr_lst, kTup_non, kTup_bl, kTup_int, kTup_str, kTup_tup, kTup_lst, atI_0, atI_1, atI_2, atI_3, cop, bop, b1D, b2D, ixD, seq_eq, seqX_tup, seqX_lst, seqX_scr, derL_eq, lstX_lst, der_loc, derLoc_lst, derLoc_dct, der_non, der_bl, der_int, der_str, der_tup, der_lst, der_scr, methD, mkL, D.isNon, D.isBl, oint, E.isSkip, slD, revD, dgetD, isLstS, truD, ints?, bls?, der_lotD, der_partD, der_thrD, der_mD, der_prD, seq_lotD, seq_partD, seq_thrD, partD]) ?_]
    · rw [ih, List.append_assoc]
    · subst hn
      have hl : acc.length + p.1.length ≤ LIM := by omega
      simp [l6_0, sl, evSs, evS, evE, evEs, evI, evG, evGs, setAll, wipeD, isD_int, isD_bool, isD_str, isD_tup, kInt_non, kInt_bl, kInt_int, kInt_str, kInt_tup, kInt_lst, kBool_non, kBool_bl, kBool_int, kBool_str, kBool_tup, kBool_lst, kStr_non, kStr_bl, kStr_int, kStr_str, kStr_tup, kStr_lst, kTup_non, kTup_bl, kTup_int, kTup_str, kTup_tup, kTup_lst, atI_0, atI_1, atI_2, atI_3, cop, bop, b1D, b2D, ixD, seq_eq, seqX_tup, seqX_lst, seqX_scr, derL_eq, lstX_lst, der_loc, derLoc_lst, derLoc_dct, der_non, der_bl, der_int, der_str, der_tup, der_lst, der_scr, methD, mkL, D.isNon, D.isBl, oint, E.isSkip, slD, revD, dgetD, isLstS, truD, ints?, bls?, der_lotD, der_partD, der_thrD, der_mD, der_prD, seq_lotD, seq_partD, seq_thrD, lotD, get_last, set_last, hl]
theorem flat_len {n : Nat} {t : Thr} (h : VThr n t) : (flat t).length = n := by
  have := h.perm.length_eq
  simpa [flat, rgI] using this
theorem rgI_sorted (n : Nat) : (rgI n).Pairwise (· ≤ ·) := by
  unfold rgI
  rw [List.pairwise_map]
  exact List.pairwise_lt_range.imp fun h => by omega
theorem same_part_nil {t : Thr} (h : t ≠ []) : deq (thrD t) (.tup []) = some false := by
  rw [deq_pl (pl_thr 57 t) rfl]
  cases t with
  | nil => exact absurd rfl h
  | cons x t => rfl
theorem e_throw_value {n : Nat} (hn : n ≤ 8) (h1 : 1 ≤ n) (k : Nat) (t : Thr) (ht : VThr n t) (st : Sto) : evCall prg (k + 5) 6 [thrD t] st = some (.bl true, st) := by
  have hfl := flat_len ht
  have hne : t ≠ [] := by
    rintro rfl
    simp [flat] at hfl
    omega
  have htl : t.length ≤ LIM := by
    have : t.length ≤ (flat t).length := by
      have : ∀ (t : Thr), (∀ x ∈ t, x.1 ≠ []) → t.length ≤ (flat t).length := by
        intro t
        induction t with
        | nil => intro _; simp
        | cons x t ih =>
          intro h
          have h1 := ih fun y hy => h y (List.mem_cons_of_mem _ hy)
          have h2 : 0 < x.1.length := List.length_pos_iff.mpr (h x List.mem_cons_self)
          simp [flat] at h1 ⊢
          omega
      exact this t fun x hx => (ht.lot x hx).2.1
    unfold LIM; omega
  have q : evE (cf (k + 4)) q6_0 [some (thrD t), none, none, none, none] st = some (.lst (t.map fun _ => .bl true), st) :=
    evE_comp (w := ⟨t.map partD, keeps (thrD t) (t.map partD)⟩) rfl (evC_mapL partD _ rfl fun x hx => ⟨_, rfl, rfl, by simp [sl, evSs, evS, evE, evEs, evI, evG, evGs, setAll, wipeD, isD_int, isD_bool, isD_str, isD_tup, kInt_non, kInt_bl, kInt_int, kInt_str, kInt_tup, kInt_lst, kBool_non, kBool_bl, kBool_int, kBool_str, kBool_tup, kBool_lst, kStr_non, kStr_bl, kStr_int, kStr_str, kStr_tup, kStr_lst, kTup_non, kTup_bl, kTup_int, kTup_str, kTup_tup, kTup_lst, atI_0, atI_1, atI_2, atI_3, cop, bop, b1D, b2D, ixD, seq_eq, seqX_tup, seqX_lst, seqX_scr, derL_eq, lstX_lst, der_loc, derLoc_lst, derLoc_dct, der_non, der_bl, der_int, der_str, der_tup, der_lst, der_scr, methD, mkL, D.isNon, D.isBl, oint, E.isSkip, slD, revD, dgetD, isLstS, truD, ints?, bls?, der_lotD, der_partD, der_thrD, der_mD, der_prD, seq_lotD, seq_partD, seq_thrD, e_lot_value hn k x (ht.lot x hx)]⟩) (mkL_ok (by simpa using htl))
  obtain ⟨a', b', lp⟩ := f6_loop (k + 4) st.length st (keeps (thrD t) (t.map partD)) (fun _ => rfl) (some (thrD t)) rfl t [] none none (by rw [hfl]; unfold LIM; simp; omega)
  have f : evS (cf (k + 4)) f6_0 [some (thrD t), some (.loc st.length), none, none, none] (st ++ [.lst []]) = some (.nx, [some (thrD t), some (.loc st.length), a', b', none], st ++ [.lst ((flat t).map D.int)]) :=
    evS_for (w := ⟨t.map partD, keeps (thrD t) (t.map partD)⟩) rfl (by simpa using lp)
  have ball : ((t.map fun _ => true).all id) = true := by simp
  have bl : bls? (t.map fun _ => D.bl true) = some (t.map fun _ => true) := bls_map (fun _ => true) t
  have so : sortI (flat t) = rgI n := (sortI_eq ht.perm.symm (rgI_sorted n)).symm
  have hrg : rngD n = (rgI n).map D.int := by simp [rngD, rgI]
  have lim : (n : Int) ≤ (LIM : Int) := by unfold LIM; omega
  have lim0 : 0 ≤ LIM := by unfold LIM; omega
  have limn : n ≤ LIM := by unfold LIM; omega
  have h64 : n < 64 := by omega
  have dq := deq_lsts (rgI n) (rgI n)
  have rl : (rgI n).length = n := by simp [rgI]
  refine call_ret (d := d6) (ex := [.lst ((flat t).map D.int)]) rfl rfl (δ := [some (thrD t), some (.loc st.length), a', b', none]) ?_ rfl
  have kt : kTup (thrD t) = true := rfl
  have hp := same_part_nil hne
  simp [d6, b6, sl, evSs, evS, evE, evEs, evI, evG, evGs, setAll, wipeD, isD_int, isD_bool, isD_str, isD_tup, kInt_non, kInt_bl, kInt_int, kInt_str, kInt_tup, kInt_lst, kBool_non, kBool_bl, kBool_int, kBool_str, kBool_tup, kBool_lst, kStr_non, kStr_bl, kStr_int, kStr_str, kStr_tup, kStr_lst, kTup_non, kTup_bl, kTup_int, kTup_str, kTup_tup, kTup_lst, atI_0, atI_1, atI_2, atI_3, cop, bop, b1D, b2D, ixD, seq_eq, seqX_tup, seqX_lst, seqX_scr, derL_eq, lstX_lst, der_loc, derLoc_lst, derLoc_dct, der_non, der_bl, der_int, der_str, der_tup, der_lst, der_scr, methD, mkL, D.isNon, D.isBl, oint, E.isSkip, slD, revD, dgetD, isLstS, truD, ints?, bls?, der_lotD, der_partD, der_thrD, der_mD, der_prD, seq_lotD, seq_partD, seq_thrD, kt, hp, q, bl, ball, f, lim0, get_last, ints_map, hfl, h64, so, rl, limn, lim, hrg, dq]
/-! ### 11, 8 -/
theorem e_raw_size {n : Nat} (k : Nat) (t : Thr) (hl : t.length ≤ LIM) (st : Sto) : evCall prg (k + 1) 11 [thrD t] st = some (.int ((flat t).length : Int), st) := by
  have q : evE (cf k) q11_0 [some (thrD t), none, none] st = some (.lst (t.map fun x => .int (x.1.length : Int)), st) :=
    evE_comp (w := ⟨t.map partD, keeps (thrD t) (t.map partD)⟩) rfl (evC_mapL partD _ rfl fun x hx => ⟨_, rfl, rfl, by simp [sl, evSs, evS, evE, evEs, evI, evG, evGs, setAll, wipeD, isD_int, isD_bool, isD_str, isD_tup, kInt_non, kInt_bl, kInt_int, kInt_str, kInt_tup, kInt_lst, kBool_non, kBool_bl, kBool_int, kBool_str, kBool_tup, kBool_lst, kStr_non, kStr_bl, kStr_int, kStr_str, kStr_tup, kStr_lst, kTup_non, kTup_bl, kTup_int, kTup_str, kTup_tup, kTup_lst, atI_0, atI_1, atI_2, atI_3, cop, bop, b1D, b2D, ixD, seq_eq, seqX_tup, seqX_lst, seqX_scr, derL_eq, lstX_lst, der_loc, derLoc_lst, derLoc_dct, der_non, der_bl, der_int, der_str, der_tup, der_lst, der_scr, methD, mkL, D.isNon, D.isBl, oint, E.isSkip, slD, revD, dgetD, isLstS, truD, ints?, bls?, der_lotD, der_partD, der_thrD, der_mD, der_prD, seq_lotD, seq_partD, seq_thrD]⟩) (mkL_ok (by simpa using hl))
  have s : ∀ t : Thr, ((t.map fun x => (x.1.length : Int))).sum = ((flat t).length : Int) := by
    intro t
    induction t with
    | nil => rfl
    | cons x t ih => simp [flat] at ih ⊢; omega
  refine call_ret0 (d := d11) rfl rfl (δ := [some (thrD t), none, none]) ?_ rfl
  simp [d11, b11, sl, evSs, evS, evE, evEs, evI, evG, evGs, setAll, wipeD, isD_int, isD_bool, isD_str, isD_tup, kInt_non, kInt_bl, kInt_int, kInt_str, kInt_tup, kInt_lst, kBool_non, kBool_bl, kBool_int, kBool_str, kBool_tup, kBool_lst, kStr_non, kStr_bl, kStr_int, kStr_str, kStr_tup, kStr_lst, kTup_non, kTup_bl, kTup_int, kTup_str, kTup_tup, kTup_lst, atI_0, atI_1, atI_2, atI_3, cop, bop, b1D, b2D, ixD, seq_eq, seqX_tup, seqX_lst, seqX_scr, derL_eq, lstX_lst, der_loc, derLoc_lst, derLoc_dct, der_non, der_bl, der_int, der_str, der_tup, der_lst, der_scr, methD, mkL, D.isNon, D.isBl, oint, E.isSkip, slD, revD, dgetD, isLstS, truD, ints?, bls?, der_lotD, der_partD, der_thrD, der_mD, der_prD, seq_lotD, seq_partD, seq_thrD, q, ints_mapf, s]
theorem e_need_throw {n : Nat} (hn : n ≤ 8) (h1 : 1 ≤ n) (k : Nat) (t : Thr) (ht : VThr n t) (st : Sto) : evCall prg (k + 6) 8 [thrD t] st = some (.non, st) :=
  call_nx0 (d := d8) rfl rfl (δ := [some (thrD t)]) (by simp [d8, b8, sl, evSs, evS, evE, evEs, evI, evG, evGs, setAll, wipeD, isD_int, isD_bool, isD_str, isD_tup, kInt_non, kInt_bl, kInt_int, kInt_str, kInt_tup, kInt_lst, kBool_non, kBool_bl, kBool_int, kBool_str, kBool_tup, kBool_lst, kStr_non, kStr_bl, kStr_int, kStr_str, kStr_tup, kStr_lst, kTup_non, kTup_bl, kTup_int, kTup_str, kTup_tup, kTup_lst, atI_0, atI_1, atI_2, atI_3, cop, bop, b1D, b2D, ixD, seq_eq, seqX_tup, seqX_lst, seqX_scr, derL_eq, lstX_lst, der_loc, derLoc_lst, derLoc_dct, der_non, der_bl, der_int, der_str, der_tup, der_lst, der_scr, methD, mkL, D.isNon, D.isBl, oint, E.isSkip, slD, revD, dgetD, isLstS, truD, ints?, bls?, der_lotD, der_partD, der_thrD, der_mD, der_prD, seq_lotD, seq_partD, seq_thrD, e_throw_value hn h1 k t ht])
/-! ### 12, 13, 14 -/
def pairsF (j : Nat) : List D → List D
  | [] => []
  | x :: xs => .tup [.int (j : Int), x] :: pairsF (j + 1) xs
theorem pairs_from (xs : List D) : pairs xs = pairsF 0 xs := by
  have : ∀ (xs : List D) (j : Nat), (List.range' j xs.length).zipWith (fun (i : Nat) x => D.tup [.int (i : Int), x]) xs = pairsF j xs := by
    intro xs
    induction xs with
    | nil => intro j; rfl
    | cons x xs ih =>
      intro j
      rw [List.length_cons, List.range'_succ, List.zipWith_cons_cons, ih (j + 1)]
      rfl
  unfold pairs
  rw [List.range_eq_range']
  exact this xs 0
theorem f12_loop (k : Nat) (st : Sto) (ok : Sto → Bool) (hok : ∀ s, ok s = true) (x : Option D) (i : Int) : ∀ (t : Thr) (j : Nat) (a b c : Option D) (m : Nat), idx i t = some m →
    ∃ δ', evFor (evG (.tup [.name 2, .tup [.name 3, .name 4]])) (evSs (cf k) l12_0) ok (pairsF j (t.map partD)) [x, some (.int i), a, b, c] st = some (.rt (.int ((j + m : Nat) : Int)), δ', st)
  | [], j, a, b, c, m, h => by simp [idx] at h
  | p :: t, j, a, b, c, m, h => by
    unfold idx at h
    by_cases hp : i ∈ p.1
    · rw [if_pos hp] at h
      obtain rfl := Option.some.inj h
      refine ⟨[x, some (.int i), some (.int (j : Int)), some (lotD p.1), some (.int p.2)], ?_⟩
      rw [List.map_cons, pairsF]
      refine evFor_ret (δ1 := [x, some (.int i), some (.int (j : Int)), some (lotD p.1), some (.int p.2)]) (hok _) (by simp [sl, evSs, evS, evE, evEs, evI, evG, evGs, setAll, wipeD, isD_int, isD_bool, isD_str, isD_tup, kInt_non, kInt_bl, kInt_int, kInt_str, kInt_tup, kInt_lst, kBool_non, kBool_bl, kBool_int, kBool_str, kBool_tup, kBool_lst, kStr_non, kStr_bl, kStr_int, kStr_str, kStr_tup, kStr_lst, kTup_non, kTup_bl, kTup_int, kTup_str, kTup_tup, kTup_lst, atI_0, atI_1, atI_2, atI_3, cop, bop, b1D, b2D, ixD, seq_eq, seqX_tup, seqX_lst, seqX_scr, derL_eq, lstX_lst, der_loc, derLoc_lst, derLoc_dct, der_non, der_bl, der_int, der_str, der_tup, der_lst, der_scr, methD, mkL, D.isNon, D.isBl, oint, E.isSkip, slD, revD, dgetD, isLstS, truD, ints?, bls?, der_lotD, der_partD, der_thrD, der_mD, der_prD, seq_lotD, seq_partD, seq_thrD, partD]) ?_
      simp [l12_0, sl, evSs, evS, evE, evEs, evI, evG, evGs, setAll, wipeD, isD_int, isD_bool, isD_str, isD_tup, kInt_non, kInt_bl, kInt_int, kInt_str, kInt_tup, kInt_lst, kBool_non, kBool_bl, kBool_int, kBool_str, kBool_tup, kBool_lst, kStr_non, kStr_bl, kStr_int, kStr_str, kStr_tup, kStr_lst, kTup_non, kTup_bl, kTup_int, kTup_str, kTup_tup, kTup_lst, atI_0, atI_1, atI_2, atI_3, cop, bop, b1D, b2D, ixD, seq_eq, seqX_tup, seqX_lst, seqX_scr, derL_eq, lstX_lst, der_loc, derLoc_lst, derLoc_dct, der_non, der_bl, der_int, der_str, der_tup, der_lst, der_scr, methD, mkL, D.isNon, D.isBl, oint, E.isSkip, slD, revD, dgetD, isLstS, truD, ints?, bls?, der_lotD, der_partD, der_thrD, der_mD, der_prD, seq_lotD, seq_partD, seq_thrD, inD_ints, hp]
    · rw [if_neg hp] at h
      obtain ⟨m', h1, rfl⟩ := Option.map_eq_some_iff.mp h
      obtain ⟨δ', ih⟩ := f12_loop k st ok hok x i t (j + 1) (some (.int (j : Int))) (some (lotD p.1)) (some (.int p.2)) m' h1
      refine ⟨δ', ?_⟩
      rw [List.map_cons, pairsF, evFor_cons (hok _) (δ1 := [x, some (.int i), some (.int (j : Int)), some (lotD p.1), some (.int p.2)]) (δ2 := [x, some (.int i), some (.int (j : Int)), some (lotD p.1), some (.int p.2)]) (st2 := st) (by simp [sl, evSs, evS, evE, evEs, evI, evG, evGs, setAll, wipeD, isD_int, isD_bool, isD_str, isD_tup, kInt_non, kInt_bl, kInt_int, kInt_str, kInt_tup, kInt_lst, kBool_non, kBool_bl, kBool_int, kBool_str, kBool_tup, kBool_lst, kStr_non, kStr_bl, kStr_int, kStr_str, kStr_tup, kStr_lst, kTup_non, kTup_bl, kTup_int, kTup_str, kTup_tup, kTup_lst, atI_0, atI_1, atI_2, atI_3, cop, bop, b1D, b2D, ixD, seq_eq, seqX_tup, seqX_lst, seqX_scr, derL_eq, lstX_lst, der_loc, derLoc_lst, derLoc_dct, der_non, der_bl, der_int, der_str, der_tup, der_lst, der_scr, methD, mkL, D.isNon, D.isBl, oint, E.isSkip, slD, revD, dgetD, isLstS, truD, ints?, bls?, der_lotD, der_partD, der_thrD, der_mD, der_prD, seq_lotD, seq_partD, seq_thrD, partD]) (by simp [l12_0, sl, evSs, evS, evE, evEs, evI, evG, evGs, setAll, wipeD, isD_int, isD_bool, isD_str, isD_tup, kInt_non, kInt_bl, kInt_int, kInt_str, kInt_tup, kInt_lst, kBool_non, kBool_bl, kBool_int, kBool_str, kBool_tup, kBool_lst, kStr_non, kStr_bl, kStr_int, kStr_str, kStr_tup, kStr_lst, kTup_non, kTup_bl, kTup_int, kTup_str, kTup_tup, kTup_lst, atI_0, atI_1, atI_2, atI_3, cop, bop, b1D, b2D, ixD, seq_eq, seqX_tup, seqX_lst, seqX_scr, derL_eq, lstX_lst, der_loc, derLoc_lst, derLoc_dct, der_non, der_bl, der_int, der_str, der_tup, der_lst, der_scr, methD, mkL, D.isNon, D.isBl, oint, E.isSkip, slD, revD, dgetD, isLstS, truD, ints?, bls?, der_lotD, der_partD, der_thrD, der_mD, der_prD, seq_lotD, seq_partD, seq_thrD, inD_ints, hp])]
      rw [ih, show j + 1 + m' = j + (m' + 1) by omega]
theorem e_lot_of (k : Nat) (t : Thr) (i : Int) (m : Nat) (h : idx i t = some m) (st : Sto) : evCall prg (k + 1) 12 [thrD t, .int i] st = some (.int (m : Int), st) := by
  obtain ⟨δ', lp⟩ := f12_loop k st (keeps (thrD t) (t.map partD)) (fun _ => rfl) (some (thrD t)) i t 0 none none none m h
  have f : evS (cf k) f12_0 [some (thrD t), some (.int i), none, none, none] st = some (.rt (.int (m : Int)), δ', st) := by
    refine evS_for (w := ⟨pairs (t.map partD), keeps (thrD t) (t.map partD)⟩) rfl ?_
    show evFor _ _ _ (pairs (t.map partD)) _ _ = _
    rw [pairs_from, lp, Nat.zero_add]
  refine call_ret0 (d := d12) rfl rfl (δ := δ') ?_ rfl
  simp [d12, b12, sl, evSs, evS, evE, evEs, evI, evG, evGs, setAll, wipeD, isD_int, isD_bool, isD_str, isD_tup, kInt_non, kInt_bl, kInt_int, kInt_str, kInt_tup, kInt_lst, kBool_non, kBool_bl, kBool_int, kBool_str, kBool_tup, kBool_lst, kStr_non, kStr_bl, kStr_int, kStr_str, kStr_tup, kStr_lst, kTup_non, kTup_bl, kTup_int, kTup_str, kTup_tup, kTup_lst, atI_0, atI_1, atI_2, atI_3, cop, bop, b1D, b2D, ixD, seq_eq, seqX_tup, seqX_lst, seqX_scr, derL_eq, lstX_lst, der_loc, derLoc_lst, derLoc_dct, der_non, der_bl, der_int, der_str, der_tup, der_lst, der_scr, methD, mkL, D.isNon, D.isBl, oint, E.isSkip, slD, revD, dgetD, isLstS, truD, ints?, bls?, der_lotD, der_partD, der_thrD, der_mD, der_prD, seq_lotD, seq_partD, seq_thrD, f]
theorem idx_lt {i : Int} : ∀ {t : Thr} {m : Nat}, idx i t = some m → m < t.length
  | [], _, h => by simp [idx] at h
  | p :: t, m, h => by
    unfold idx at h
    split at h
    · obtain rfl := Option.some.inj h
      simp
    · obtain ⟨m', h1, rfl⟩ := Option.map_eq_some_iff.mp h
      have := idx_lt h1
      simp; omega
theorem idx_some {i : Int} : ∀ {t : Thr}, i ∈ flat t → ∃ m, idx i t = some m
  | [], h => by simp [flat] at h
  | p :: t, h => by
    unfold idx
    by_cases hp : i ∈ p.1
    · exact ⟨0, by rw [if_pos hp]⟩
    · have : i ∈ flat t := by
        simp [flat] at h ⊢
        rcases h with h | h
        · exact absurd h hp
        · exact h
      obtain ⟨m, e⟩ := idx_some this
      exact ⟨m + 1, by rw [if_neg hp, e]; rfl⟩
theorem in_flat {n : Nat} {t : Thr} (ht : VThr n t) {a : Int} (h0 : 0 ≤ a) (h1 : a < n) : a ∈ flat t := by
  refine ht.perm.symm.subset ?_
  unfold rgI
  exact List.mem_map.mpr ⟨a.toNat, List.mem_range.mpr (by omega), by omega⟩
theorem e_raw_way {n : Nat} (k : Nat) (t : Thr) (ht : VThr n t) (a b : Int) (ha : 0 ≤ a ∧ a < n) (hb : 0 ≤ b ∧ b < n) (st : Sto) : evCall prg (k + 2) 13 [thrD t, .int a, .int b] st = some (.str (wayS t a b), st) := by
  obtain ⟨i, hi⟩ := idx_some (in_flat ht ha.1 ha.2)
  obtain ⟨j, hj⟩ := idx_some (in_flat ht hb.1 hb.2)
  have e1 := e_lot_of k t a i hi st
  have e2 := e_lot_of k t b j hj st
  have g1 : prg.gl "AHEAD" = some (.str "ahead") := rfl
  have g2 : prg.gl "BEHIND" = some (.str "behind") := rfl
  have g3 : prg.gl "KEPT" = some (.str "kept") := rfl
  have g4 : prg.gl "TURNED" = some (.str "turned") := rfl
  have hil := idx_lt hi
  have h1 : L2.atI (t.map partD) (i : Int) = some (partD t[i]) := by
    rw [atI_nat _ _ (by simpa using hil), List.getElem?_map, List.getElem?_eq_getElem hil]
    rfl
  have hgd : t.getD i ([], 1) = t[i] := by rw [List.getD_eq_getElem?_getD, List.getElem?_eq_getElem hil]; rfl
  refine call_ret0 (d := d13) rfl rfl (δ := [some (thrD t), some (.int a), some (.int b), some (.int i), some (.int j)]) ?_ rfl
  unfold wayS
  rw [hi, hj]
  simp only [Option.getD_some, hgd]
  by_cases hij : i = j
  · subst hij
    by_cases hs : t[i].2 = 1
    · simp [d13, b13, sl, evSs, evS, evE, evEs, evI, evG, evGs, setAll, wipeD, isD_int, isD_bool, isD_str, isD_tup, kInt_non, kInt_bl, kInt_int, kInt_str, kInt_tup, kInt_lst, kBool_non, kBool_bl, kBool_int, kBool_str, kBool_tup, kBool_lst, kStr_non, kStr_bl, kStr_int, kStr_str, kStr_tup, kStr_lst, kTup_non, kTup_bl, kTup_int, kTup_str, kTup_tup, kTup_lst, atI_0, atI_1, atI_2, atI_3, cop, bop, b1D, b2D, ixD, seq_eq, seqX_tup, seqX_lst, seqX_scr, derL_eq, lstX_lst, der_loc, derLoc_lst, derLoc_dct, der_non, der_bl, der_int, der_str, der_tup, der_lst, der_scr, methD, mkL, D.isNon, D.isBl, oint, E.isSkip, slD, revD, dgetD, isLstS, truD, ints?, bls?, der_lotD, der_partD, der_thrD, der_mD, der_prD, seq_lotD, seq_partD, seq_thrD, e1, e2, deq_int, h1, hs, g3, g4]
    · simp [d13, b13, sl, evSs, evS, evE, evEs, evI, evG, evGs, setAll, wipeD, isD_int, isD_bool, isD_str, isD_tup, kInt_non, kInt_bl, kInt_int, kInt_str, kInt_tup, kInt_lst, kBool_non, kBool_bl, kBool_int, kBool_str, kBool_tup, kBool_lst, kStr_non, kStr_bl, kStr_int, kStr_str, kStr_tup, kStr_lst, kTup_non, kTup_bl, kTup_int, kTup_str, kTup_tup, kTup_lst, atI_0, atI_1, atI_2, atI_3, cop, bop, b1D, b2D, ixD, seq_eq, seqX_tup, seqX_lst, seqX_scr, derL_eq, lstX_lst, der_loc, derLoc_lst, derLoc_dct, der_non, der_bl, der_int, der_str, der_tup, der_lst, der_scr, methD, mkL, D.isNon, D.isBl, oint, E.isSkip, slD, revD, dgetD, isLstS, truD, ints?, bls?, der_lotD, der_partD, der_thrD, der_mD, der_prD, seq_lotD, seq_partD, seq_thrD, e1, e2, deq_int, h1, hs, g3, g4]
  · have hij2 : ¬ (i : Int) = (j : Int) := by omega
    by_cases hlt : i < j
    · have : (i : Int) < (j : Int) := by omega
      simp [d13, b13, sl, evSs, evS, evE, evEs, evI, evG, evGs, setAll, wipeD, isD_int, isD_bool, isD_str, isD_tup, kInt_non, kInt_bl, kInt_int, kInt_str, kInt_tup, kInt_lst, kBool_non, kBool_bl, kBool_int, kBool_str, kBool_tup, kBool_lst, kStr_non, kStr_bl, kStr_int, kStr_str, kStr_tup, kStr_lst, kTup_non, kTup_bl, kTup_int, kTup_str, kTup_tup, kTup_lst, atI_0, atI_1, atI_2, atI_3, cop, bop, b1D, b2D, ixD, seq_eq, seqX_tup, seqX_lst, seqX_scr, derL_eq, lstX_lst, der_loc, derLoc_lst, derLoc_dct, der_non, der_bl, der_int, der_str, der_tup, der_lst, der_scr, methD, mkL, D.isNon, D.isBl, oint, E.isSkip, slD, revD, dgetD, isLstS, truD, ints?, bls?, der_lotD, der_partD, der_thrD, der_mD, der_prD, seq_lotD, seq_partD, seq_thrD, e1, e2, deq_int, hij, hij2, hlt, this, g1, g2]
    · have : ¬ (i : Int) < (j : Int) := by omega
      simp [d13, b13, sl, evSs, evS, evE, evEs, evI, evG, evGs, setAll, wipeD, isD_int, isD_bool, isD_str, isD_tup, kInt_non, kInt_bl, kInt_int, kInt_str, kInt_tup, kInt_lst, kBool_non, kBool_bl, kBool_int, kBool_str, kBool_tup, kBool_lst, kStr_non, kStr_bl, kStr_int, kStr_str, kStr_tup, kStr_lst, kTup_non, kTup_bl, kTup_int, kTup_str, kTup_tup, kTup_lst, atI_0, atI_1, atI_2, atI_3, cop, bop, b1D, b2D, ixD, seq_eq, seqX_tup, seqX_lst, seqX_scr, derL_eq, lstX_lst, der_loc, derLoc_lst, derLoc_dct, der_non, der_bl, der_int, der_str, der_tup, der_lst, der_scr, methD, mkL, D.isNon, D.isBl, oint, E.isSkip, slD, revD, dgetD, isLstS, truD, ints?, bls?, der_lotD, der_partD, der_thrD, der_mD, der_prD, seq_lotD, seq_partD, seq_thrD, e1, e2, deq_int, hij, hij2, hlt, this, g1, g2]
theorem e_one_lot (k n : Nat) (s : Int) (hn : n ≤ LIM) (st : Sto) : evCall prg (k + 1) 14 [.int n, .int s] st = some (thrD [(rgI n, s)], st) := by
  refine call_ret0 (d := d14) rfl rfl (δ := [some (.int n), some (.int s)]) ?_ (bel_thr _)
  have h : rngD n = (rgI n).map D.int := by simp [rngD, rgI]
  have h2 : (n : Int) ≤ (LIM : Int) := by omega
  simp [d14, b14, sl, evSs, evS, evE, evEs, evI, evG, evGs, setAll, wipeD, isD_int, isD_bool, isD_str, isD_tup, kInt_non, kInt_bl, kInt_int, kInt_str, kInt_tup, kInt_lst, kBool_non, kBool_bl, kBool_int, kBool_str, kBool_tup, kBool_lst, kStr_non, kStr_bl, kStr_int, kStr_str, kStr_tup, kStr_lst, kTup_non, kTup_bl, kTup_int, kTup_str, kTup_tup, kTup_lst, atI_0, atI_1, atI_2, atI_3, cop, bop, b1D, b2D, ixD, seq_eq, seqX_tup, seqX_lst, seqX_scr, derL_eq, lstX_lst, der_loc, derLoc_lst, derLoc_dct, der_non, der_bl, der_int, der_str, der_tup, der_lst, der_scr, methD, mkL, D.isNon, D.isBl, oint, E.isSkip, slD, revD, dgetD, isLstS, truD, ints?, bls?, der_lotD, der_partD, der_thrD, der_mD, der_prD, seq_lotD, seq_partD, seq_thrD, thrD, partD, lotD, h, h2]
end K82
set_option Elab.async false
set_option linter.all false
set_option maxRecDepth 100000
set_option maxHeartbeats 4000000
namespace K82
open PySem Ev
theorem zip_drop : ∀ l : List Int, (l.map D.int).zipWith (fun x y => D.tup [x, y]) ((l.map D.int).drop 1) = (l.zip (l.drop 1)).map fun (q : Int × Int) => D.tup [.int q.1, .int q.2]
  | [] => rfl
  | [x] => rfl
  | x :: y :: l => by
    have ih := zip_drop (y :: l)
    simp only [List.map_cons, List.drop_succ_cons, List.drop_zero, List.zipWith_cons_cons, List.zip_cons_cons] at ih ⊢
    rw [ih]
theorem zip_lt {l : List Int} (h : l.Pairwise (· < ·)) : ∀ q ∈ l.zip (l.drop 1), q.1 < q.2 := by
  induction l with
  | nil => intro q hq; simp at hq
  | cons x l ih =>
    obtain ⟨h1, h2⟩ := List.pairwise_cons.mp h
    cases l with
    | nil => intro q hq; simp at hq
    | cons y l =>
      intro q hq
      simp only [List.drop_succ_cons, List.drop_zero, List.zip_cons_cons, List.mem_cons] at hq
      rcases hq with rfl | hq
      · exact h1 y List.mem_cons_self
      · exact ih h2 q (by simpa using hq)
theorem e_part_lot (k n : Nat) (l : List Int) (hn : n ≤ 8) (h1 : l.Pairwise (· < ·)) (h2 : ∀ i ∈ l, 0 ≤ i ∧ i < (n : Int)) (st : Sto) : evCall prg (k + 4) 15 [.int n, lotD l] st = some (.bl true, st) := by
  have hl := len_le h1 h2
  have lim : l.length ≤ LIM := by unfold LIM; omega
  have hi : evI (cf (k + 3)) (.zip (.var 1) (.sl false (.var 1) (.int 1) .skip)) [some (.int n), some (lotD l), none, none] st = some (⟨(l.zip (l.drop 1)).map fun (q : Int × Int) => D.tup [.int q.1, .int q.2], fun _ => true⟩, st) := by
    have e1 : evE (cf (k + 3)) (.sl false (.var 1) (.int 1) .skip) [some (.int n), some (lotD l), none, none] st = some (.tup ((l.map D.int).drop 1), st) := by
      have : slD false (lotD l) (some 1) none st = some (.tup (cutD (l.map D.int) (some 1) none), st) := rfl
      simp [evE, oint, E.isSkip, this, cut_1]
    have e0 : evE (cf (k + 3)) (.var 1) [some (.int n), some (lotD l), none, none] st = some (lotD l, st) := rfl
    rw [← zip_drop]
    simp only [evI, e0, e1, Option.bind_some]
    rfl
  have q : evE (cf (k + 3)) q15_0 [some (.int n), some (lotD l), none, none] st = some (.lst ((l.zip (l.drop 1)).map fun q => .bl (decide (q.1 < q.2))), st) :=
    evE_comp hi (evC_mapL _ _ rfl fun q hq => ⟨_, rfl, rfl, by simp [sl, evSs, evS, evE, evEs, evI, evG, evGs, setAll, wipeD, isD_int, isD_bool, isD_str, isD_tup, kInt_non, kInt_bl, kInt_int, kInt_str, kInt_tup, kInt_lst, kBool_non, kBool_bl, kBool_int, kBool_str, kBool_tup, kBool_lst, kStr_non, kStr_bl, kStr_int, kStr_str, kStr_tup, kStr_lst, kTup_non, kTup_bl, kTup_int, kTup_str, kTup_tup, kTup_lst, atI_0, atI_1, atI_2, atI_3, cop, bop, b1D, b2D, ixD, seq_eq, seqX_tup, seqX_lst, seqX_scr, derL_eq, lstX_lst, der_loc, derLoc_lst, derLoc_dct, der_non, der_bl, der_int, der_str, der_tup, der_lst, der_scr, methD, mkL, D.isNon, D.isBl, oint, E.isSkip, slD, revD, dgetD, isLstS, truD, ints?, bls?, der_lotD, der_partD, der_thrD, der_mD, der_prD, seq_lotD, seq_partD, seq_thrD]⟩) (mkL_ok (by simp; omega))
  have k3 : (l.all fun i => decide (0 ≤ i) && decide (i ≤ (n : Int) - 1)) = true := by
    rw [List.all_eq_true]
    intro i hi
    have := h2 i hi
    simp; omega
  have e2 := e_are_between k l 0 ((n : Int) - 1) st lim
  rw [k3] at e2
  have hp : ((l.zip (l.drop 1)).all fun q => decide (q.1 < q.2)) = true := by
    rw [List.all_eq_true]
    intro q hq
    exact decide_eq_true (zip_lt h1 q hq)
  refine call_ret0 (d := d15) rfl rfl (δ := [some (.int n), some (lotD l), none, none]) ?_ rfl
  simp only [d15, b15, sl, evSs, evS, evE, evEs, evI, evG, evGs, setAll, wipeD, isD_int, isD_bool, isD_str, isD_tup, kInt_non, kInt_bl, kInt_int, kInt_str, kInt_tup, kInt_lst, kBool_non, kBool_bl, kBool_int, kBool_str, kBool_tup, kBool_lst, kStr_non, kStr_bl, kStr_int, kStr_str, kStr_tup, kStr_lst, kTup_non, kTup_bl, kTup_int, kTup_str, kTup_tup, kTup_lst, atI_0, atI_1, atI_2, atI_3, cop, bop, b1D, b2D, ixD, seq_eq, seqX_tup, seqX_lst, seqX_scr, derL_eq, lstX_lst, der_loc, derLoc_lst, derLoc_dct, der_non, der_bl, der_int, der_str, der_tup, der_lst, der_scr, methD, mkL, D.isNon, D.isBl, oint, E.isSkip, slD, revD, dgetD, isLstS, truD, ints?, bls?, der_lotD, der_partD, der_thrD, der_mD, der_prD, seq_lotD, seq_partD, seq_thrD, List.map_cons, List.map_nil, List.length_cons, List.length_nil]
  simp [sl, evSs, evS, evE, evEs, evI, evG, evGs, setAll, wipeD, isD_int, isD_bool, isD_str, isD_tup, kInt_non, kInt_bl, kInt_int, kInt_str, kInt_tup, kInt_lst, kBool_non, kBool_bl, kBool_int, kBool_str, kBool_tup, kBool_lst, kStr_non, kStr_bl, kStr_int, kStr_str, kStr_tup, kStr_lst, kTup_non, kTup_bl, kTup_int, kTup_str, kTup_tup, kTup_lst, atI_0, atI_1, atI_2, atI_3, cop, bop, b1D, b2D, ixD, seq_eq, seqX_tup, seqX_lst, seqX_scr, derL_eq, lstX_lst, der_loc, derLoc_lst, derLoc_dct, der_non, der_bl, der_int, der_str, der_tup, der_lst, der_scr, methD, mkL, D.isNon, D.isBl, oint, E.isSkip, slD, revD, dgetD, isLstS, truD, ints?, bls?, der_lotD, der_partD, der_thrD, der_mD, der_prD, seq_lotD, seq_partD, seq_thrD, e2, q, bls_map, map_all]
  simpa using hp
/-! ### 16 -/
theorem s_row_throw : (("row" : PySem.Str) = "throw") = False := eq_false (by decide +kernel)
theorem s_choice_throw : (("choice" : PySem.Str) = "throw") = False := eq_false (by decide +kernel)
theorem s_often_throw : (("often" : PySem.Str) = "throw") = False := eq_false (by decide +kernel)
theorem s_parted_throw : (("parted" : PySem.Str) = "throw") = False := eq_false (by decide +kernel)
theorem s_choice_row : (("choice" : PySem.Str) = "row") = False := eq_false (by decide +kernel)
theorem s_often_row : (("often" : PySem.Str) = "row") = False := eq_false (by decide +kernel)
theorem s_parted_row : (("parted" : PySem.Str) = "row") = False := eq_false (by decide +kernel)
theorem s_often_choice : (("often" : PySem.Str) = "choice") = False := eq_false (by decide +kernel)
theorem s_parted_choice : (("parted" : PySem.Str) = "choice") = False := eq_false (by decide +kernel)
theorem s_parted_often : (("parted" : PySem.Str) = "often") = False := eq_false (by decide +kernel)
theorem s_row_parted : (("row" : PySem.Str) = "parted") = False := eq_false (by decide +kernel)
theorem s_choice_parted : (("choice" : PySem.Str) = "parted") = False := eq_false (by decide +kernel)
theorem s_often_parted : (("often" : PySem.Str) = "parted") = False := eq_false (by decide +kernel)
theorem s_row_often : (("row" : PySem.Str) = "often") = False := eq_false (by decide +kernel)
theorem s_choice_often : (("choice" : PySem.Str) = "often") = False := eq_false (by decide +kernel)
theorem s_row_choice : (("row" : PySem.Str) = "choice") = False := eq_false (by decide +kernel)
theorem dps_le {ps : List Pr} {p : Pr} (h : p ∈ ps) : dp p ≤ dps ps := by
  induction ps with
  | nil => simp at h
  | cons q ps ih =>
    unfold dps
    rcases List.mem_cons.mp h with rfl | h
    · omega
    · have := ih h; omega
theorem szs_le {ps : List Pr} : ps.length ≤ szs ps := by
  induction ps with
  | nil => simp
  | cons q ps ih =>
    have : 1 ≤ sz q := by cases q <;> simp [sz]
    unfold szs
    simp; omega
theorem e_inner {n : Nat} (hn : n ≤ 8) (h1 : 1 ≤ n) (k : Nat) (p : Pr) (hp : VPr n p) (hd : dp p ≤ 20) (hz : sz p ≤ 1000) (st : Sto) : evCall prg (k + 6) 16 [.int n, prD p] st = some (.lst ((inner p).map prD), st) := by
  have hbel : D.bel 0 (.lst ((inner p).map prD)) = true := by
    rw [← prDs_map]; exact bel_prs _
  refine call_ret0 (d := d16) rfl rfl (δ := [some (.int n), some (prD p)]) ?_ hbel
  have d22 : deq (.int 2) (.int 2) = some true := by rw [deq_int]; rfl
  have d44 : deq (.int 4) (.int 4) = some true := by rw [deq_int]; rfl
  have lim0 : 0 ≤ LIM := by unfold LIM; omega
  have lim1 : 1 ≤ LIM := by unfold LIM; omega
  have lim2 : 2 ≤ LIM := by unfold LIM; omega
  cases p with
  | throw t =>
    have ht : VThr n t := hp
    have e1 := e_throw_value hn h1 k t ht st
    have htl : t.length ≤ LIM := by
      have := flat_len ht
      have h3 : ∀ (t : Thr), (∀ x ∈ t, x.1 ≠ []) → t.length ≤ (flat t).length := by
        intro t
        induction t with
        | nil => intro _; simp
        | cons x t ih =>
          intro h
          have h1 := ih fun y hy => h y (List.mem_cons_of_mem _ hy)
          have h2 : 0 < x.1.length := List.length_pos_iff.mpr (h x List.mem_cons_self)
          simp [flat] at h1 ⊢
          omega
      have := h3 t fun x hx => (ht.lot x hx).2.1
      unfold LIM; omega
    have e2 := e_raw_size (n := n) (k + 4) t htl st
    rw [flat_len ht] at e2
    have e3 := fun r => e_word (k + 4) "throw" "throw" r st ok_throw ok_throw
    have d1 : deq (.int n) (.int n) = some true := by rw [deq_int]; simp
    simp [d16, b16, sl, evSs, evS, evE, evEs, evI, evG, evGs, setAll, wipeD, isD_int, isD_bool, isD_str, isD_tup, kInt_non, kInt_bl, kInt_int, kInt_str, kInt_tup, kInt_lst, kBool_non, kBool_bl, kBool_int, kBool_str, kBool_tup, kBool_lst, kStr_non, kStr_bl, kStr_int, kStr_str, kStr_tup, kStr_lst, kTup_non, kTup_bl, kTup_int, kTup_str, kTup_tup, kTup_lst, atI_0, atI_1, atI_2, atI_3, cop, bop, b1D, b2D, ixD, seq_eq, seqX_tup, seqX_lst, seqX_scr, derL_eq, lstX_lst, der_loc, derLoc_lst, derLoc_dct, der_non, der_bl, der_int, der_str, der_tup, der_lst, der_scr, methD, mkL, D.isNon, D.isBl, oint, E.isSkip, slD, revD, dgetD, isLstS, truD, ints?, bls?, der_lotD, der_partD, der_thrD, der_mD, der_prD, seq_lotD, seq_partD, seq_thrD, prD, e3, d22, e1, e2, d1, lim0, inner]
  | row ps =>
    have lim : ps.length ≤ LIM := by have := szs_le (ps := ps); simp [sz] at hz; unfold LIM; omega
    have e3 := fun r => e_word (k + 4) "row" "throw" r st ok_row ok_throw
    have e4 := fun r => e_word (k + 4) "row" "row" r st ok_row ok_row
    simp [d16, b16, sl, evSs, evS, evE, evEs, evI, evG, evGs, setAll, wipeD, isD_int, isD_bool, isD_str, isD_tup, kInt_non, kInt_bl, kInt_int, kInt_str, kInt_tup, kInt_lst, kBool_non, kBool_bl, kBool_int, kBool_str, kBool_tup, kBool_lst, kStr_non, kStr_bl, kStr_int, kStr_str, kStr_tup, kStr_lst, kTup_non, kTup_bl, kTup_int, kTup_str, kTup_tup, kTup_lst, atI_0, atI_1, atI_2, atI_3, cop, bop, b1D, b2D, ixD, seq_eq, seqX_tup, seqX_lst, seqX_scr, derL_eq, lstX_lst, der_loc, derLoc_lst, derLoc_dct, der_non, der_bl, der_int, der_str, der_tup, der_lst, der_scr, methD, mkL, D.isNon, D.isBl, oint, E.isSkip, slD, revD, dgetD, isLstS, truD, ints?, bls?, der_lotD, der_partD, der_thrD, der_mD, der_prD, seq_lotD, seq_partD, seq_thrD, prD, e3, e4, s_row_throw, d22, lim, inner, prDs_map]
  | choice ps =>
    have lim : ps.length ≤ LIM := by have := szs_le (ps := ps); simp [sz] at hz; unfold LIM; omega
    have e3 := fun r => e_word (k + 4) "choice" "throw" r st ok_choice ok_throw
    have e4 := fun r => e_word (k + 4) "choice" "row" r st ok_choice ok_row
    have e5 := fun r => e_word (k + 4) "choice" "choice" r st ok_choice ok_choice
    have hne : ps ≠ [] := hp.1
    have d0 : deq (.tup (ps.map prD)) (.tup []) = some false := by
      have hpl : D.pl 60 (.tup (ps.map prD)) = true := by
        show D.pls 59 (ps.map prD) = true
        exact pls_of fun d hd2 => by
          obtain ⟨q, hq, rfl⟩ := List.mem_map.mp hd2
          have := dps_le hq
          simp only [dp] at hd
          exact pl60 (by omega) 59 (by omega)
      rw [deq_pl hpl rfl]
      cases ps with
      | nil => exact absurd rfl hne
      | cons q qs => rfl
    simp [d16, b16, sl, evSs, evS, evE, evEs, evI, evG, evGs, setAll, wipeD, isD_int, isD_bool, isD_str, isD_tup, kInt_non, kInt_bl, kInt_int, kInt_str, kInt_tup, kInt_lst, kBool_non, kBool_bl, kBool_int, kBool_str, kBool_tup, kBool_lst, kStr_non, kStr_bl, kStr_int, kStr_str, kStr_tup, kStr_lst, kTup_non, kTup_bl, kTup_int, kTup_str, kTup_tup, kTup_lst, atI_0, atI_1, atI_2, atI_3, cop, bop, b1D, b2D, ixD, seq_eq, seqX_tup, seqX_lst, seqX_scr, derL_eq, lstX_lst, der_loc, derLoc_lst, derLoc_dct, der_non, der_bl, der_int, der_str, der_tup, der_lst, der_scr, methD, mkL, D.isNon, D.isBl, oint, E.isSkip, slD, revD, dgetD, isLstS, truD, ints?, bls?, der_lotD, der_partD, der_thrD, der_mD, der_prD, seq_lotD, seq_partD, seq_thrD, prD, e3, e4, e5, s_choice_throw, s_choice_row, d22, lim, inner, prDs_map, d0]
  | often q =>
    have e3 := fun r => e_word (k + 4) "often" "throw" r st ok_often ok_throw
    have e4 := fun r => e_word (k + 4) "often" "row" r st ok_often ok_row
    have e5 := fun r => e_word (k + 4) "often" "choice" r st ok_often ok_choice
    have e6 := fun r => e_word (k + 4) "often" "often" r st ok_often ok_often
    simp [d16, b16, sl, evSs, evS, evE, evEs, evI, evG, evGs, setAll, wipeD, isD_int, isD_bool, isD_str, isD_tup, kInt_non, kInt_bl, kInt_int, kInt_str, kInt_tup, kInt_lst, kBool_non, kBool_bl, kBool_int, kBool_str, kBool_tup, kBool_lst, kStr_non, kStr_bl, kStr_int, kStr_str, kStr_tup, kStr_lst, kTup_non, kTup_bl, kTup_int, kTup_str, kTup_tup, kTup_lst, atI_0, atI_1, atI_2, atI_3, cop, bop, b1D, b2D, ixD, seq_eq, seqX_tup, seqX_lst, seqX_scr, derL_eq, lstX_lst, der_loc, derLoc_lst, derLoc_dct, der_non, der_bl, der_int, der_str, der_tup, der_lst, der_scr, methD, mkL, D.isNon, D.isBl, oint, E.isSkip, slD, revD, dgetD, isLstS, truD, ints?, bls?, der_lotD, der_partD, der_thrD, der_mD, der_prD, seq_lotD, seq_partD, seq_thrD, prD, e3, e4, e5, e6, s_often_throw, s_often_row, s_often_choice, d22, lim1, inner]
  | parted l q r =>
    have e3 := fun r => e_word (k + 4) "parted" "throw" r st ok_parted ok_throw
    have e4 := fun r => e_word (k + 4) "parted" "row" r st ok_parted ok_row
    have e5 := fun r => e_word (k + 4) "parted" "choice" r st ok_parted ok_choice
    have e6 := fun r => e_word (k + 4) "parted" "often" r st ok_parted ok_often
    have e7 := fun r => e_word (k + 4) "parted" "parted" r st ok_parted ok_parted
    have e8 := e_part_lot (k + 1) n l hn hp.1.1 hp.1.2 st
    simp [d16, b16, sl, evSs, evS, evE, evEs, evI, evG, evGs, setAll, wipeD, isD_int, isD_bool, isD_str, isD_tup, kInt_non, kInt_bl, kInt_int, kInt_str, kInt_tup, kInt_lst, kBool_non, kBool_bl, kBool_int, kBool_str, kBool_tup, kBool_lst, kStr_non, kStr_bl, kStr_int, kStr_str, kStr_tup, kStr_lst, kTup_non, kTup_bl, kTup_int, kTup_str, kTup_tup, kTup_lst, atI_0, atI_1, atI_2, atI_3, cop, bop, b1D, b2D, ixD, seq_eq, seqX_tup, seqX_lst, seqX_scr, derL_eq, lstX_lst, der_loc, derLoc_lst, derLoc_dct, der_non, der_bl, der_int, der_str, der_tup, der_lst, der_scr, methD, mkL, D.isNon, D.isBl, oint, E.isSkip, slD, revD, dgetD, isLstS, truD, ints?, bls?, der_lotD, der_partD, der_thrD, der_mD, der_prD, seq_lotD, seq_partD, seq_thrD, prD, e3, e4, e5, e6, e7, s_parted_throw, s_parted_row, s_parted_choice, s_parted_often, d44, e8, lim2, inner]
/-! ### 17 -/
theorem szs_append (a b : List Pr) : szs (a ++ b) = szs a + szs b := by
  induction a with
  | nil => simp [szs]
  | cons x a ih => (simp only [List.cons_append, szs, ih]; omega)
theorem dps_append (a b : List Pr) : dps (a ++ b) = max (dps a) (dps b) := by
  induction a with
  | nil => simp [dps]
  | cons x a ih => (simp only [List.cons_append, dps, ih]; omega)
theorem sz_inner (p : Pr) : sz p = szs (inner p) + 1 := by
  cases p <;> simp [sz, szs, inner]
theorem dp_inner (p : Pr) : dp p = dps (inner p) + 1 := by
  cases p <;> simp [dp, dps, inner]
theorem next_sz (ps : List Pr) : szs (ps.flatMap inner) + ps.length = szs ps := by
  induction ps with
  | nil => rfl
  | cons p ps ih =>
    rw [List.flatMap_cons, szs_append, List.length_cons]
    have := sz_inner p
    show szs (inner p) + szs (ps.flatMap inner) + (ps.length + 1) = sz p + szs ps
    omega
theorem next_dp {ps : List Pr} (h : ps ≠ []) : dps (ps.flatMap inner) + 1 = dps ps := by
  have : ∀ ps : List Pr, ps ≠ [] → dps (ps.flatMap inner) + 1 = dps ps := by
    intro ps
    induction ps with
    | nil => intro h; exact absurd rfl h
    | cons p ps ih =>
      intro _
      rw [List.flatMap_cons, dps_append]
      have h1 := dp_inner p
      cases ps with
      | nil =>
        simp only [dps, List.flatMap_nil]
        omega
      | cons q qs =>
        have h2 := ih (by simp)
        show max (dps (inner p)) (dps ((q :: qs).flatMap inner)) + 1 = max (dp p) (dps (q :: qs))
        omega
  exact this ps h
theorem VPrs_inner {n : Nat} {p : Pr} (h : VPr n p) : VPrs n (inner p) := by
  cases p with
  | throw t => trivial
  | row ps => exact h
  | choice ps => exact h.2
  | often q => exact ⟨h, trivial⟩
  | parted l q r => exact ⟨h.2.1, h.2.2, trivial⟩
theorem VPrs_next {n : Nat} {ps : List Pr} (h : VPrs n ps) : VPrs n (ps.flatMap inner) := by
  rw [VPrs_mem] at h ⊢
  intro p hp
  obtain ⟨q, hq, hpq⟩ := List.mem_flatMap.mp hp
  exact VPrs_mem.mp (VPrs_inner (h q hq)) p hpq
theorem pl_layer {ps : List Pr} (h : dps ps ≤ 20) (n : Nat) (hn : 50 ≤ n) : D.pls n (ps.map prD) = true := pls_of fun d hd => by
  obtain ⟨q, hq, rfl⟩ := List.mem_map.mp hd
  have := dps_le hq
  exact pl60 (by omega) n hn
theorem w17 {n : Nat} (hn : n ≤ 8) (h1 : 1 ≤ n) (k : Nat) (x : Option D) (st : Sto) : ∀ (fuel : Nat) (ps : List Pr) (m d : Nat) (b p i : Option D), VPrs n ps → m + szs ps ≤ 40 → d + dps ps ≤ 6 → dps ps < fuel →
    ∃ δ', evWh (evE (cf (k + 6)) (.cmp .ne (.var 2) (.lst false .nil))) (evSs (cf (k + 6)) l17_0) fuel [some (.int n), x, some (.lst (ps.map prD)), some (.int m), some (.int d), b, p, i] st = some (.nx, δ', st) ∧ δ'[3]? = some (some (.int ((m + szs ps : Nat) : Int)))
  | 0, ps, m, d, b, p, i, hv, hm, hd, hf => by omega
  | fuel + 1, ps, m, d, b, p, i, hv, hm, hd, hf => by
    have lim0 : 0 ≤ LIM := by unfold LIM; omega
    have hp60 : D.pl 60 (.lst (ps.map prD)) = true := pl_layer (by omega) 59 (by omega)
    have hcmp : deq (.lst (ps.map prD)) (.lst []) = some (ps.isEmpty) := by
      rw [deq_pl hp60 rfl]
      cases ps <;> rfl
    have hc : evE (cf (k + 6)) (.cmp .ne (.var 2) (.lst false .nil)) [some (.int n), x, some (.lst (ps.map prD)), some (.int m), some (.int d), b, p, i] st = some (.bl (!ps.isEmpty), st) := by
      simp [sl, evSs, evS, evE, evEs, evI, evG, evGs, setAll, wipeD, isD_int, isD_bool, isD_str, isD_tup, kInt_non, kInt_bl, kInt_int, kInt_str, kInt_tup, kInt_lst, kBool_non, kBool_bl, kBool_int, kBool_str, kBool_tup, kBool_lst, kStr_non, kStr_bl, kStr_int, kStr_str, kStr_tup, kStr_lst, kTup_non, kTup_bl, kTup_int, kTup_str, kTup_tup, kTup_lst, atI_0, atI_1, atI_2, atI_3, cop, bop, b1D, b2D, ixD, seq_eq, seqX_tup, seqX_lst, seqX_scr, derL_eq, lstX_lst, der_loc, derLoc_lst, derLoc_dct, der_non, der_bl, der_int, der_str, der_tup, der_lst, der_scr, methD, mkL, D.isNon, D.isBl, oint, E.isSkip, slD, revD, dgetD, isLstS, truD, ints?, bls?, der_lotD, der_partD, der_thrD, der_mD, der_prD, seq_lotD, seq_partD, seq_thrD, lim0, hcmp]
    by_cases he : ps = []
    · subst he
      refine ⟨_, by simp only [evWh, hc]; rfl, by simp [szs]⟩
    · have hne : (!ps.isEmpty) = true := by cases ps <;> simp_all
      rw [hne] at hc
      have hz := next_sz ps
      have hdp := next_dp he
      have hlen := szs_le (ps := ps)
      have hpos : 0 < ps.length := List.length_pos_iff.mpr he
      have lim : ps.length ≤ LIM := by unfold LIM; omega
      have g1 : prg.gl "MOST_PARTS" = some (.int 40) := rfl
      have g2 : prg.gl "MOST_DEEP" = some (.int 6) := rfl
      have hb : evE (cf (k + 6)) q17_1 [some (.int n), x, some (.lst (ps.map prD)), some (.int ((m : Int) + (ps.length : Int))), some (.int ((d : Int) + 1)), b, p, i] st = some (.lst (ps.map fun q => .lst ((inner q).map prD)), st) :=
        evE_comp (w := ⟨ps.map prD, keeps (.lst (ps.map prD)) (ps.map prD)⟩) rfl (evC_mapL prD _ rfl fun q hq => ⟨_, rfl, rfl, by
          have hq2 := dps_le hq
          have hq3 : sz q ≤ 1000 := by
            have : ∀ ps : List Pr, q ∈ ps → sz q ≤ szs ps := by
              intro ps
              induction ps with
              | nil => intro h; simp at h
              | cons r ps ih =>
                intro h
                rcases List.mem_cons.mp h with rfl | h
                · simp [szs]
                · have := ih h; simp [szs]; omega
            have := this ps hq
            omega
          have e := e_inner hn h1 k q (VPrs_mem.mp hv q hq) (by omega) hq3 st
          simp [sl, evSs, evS, evE, evEs, evI, evG, evGs, setAll, wipeD, isD_int, isD_bool, isD_str, isD_tup, kInt_non, kInt_bl, kInt_int, kInt_str, kInt_tup, kInt_lst, kBool_non, kBool_bl, kBool_int, kBool_str, kBool_tup, kBool_lst, kStr_non, kStr_bl, kStr_int, kStr_str, kStr_tup, kStr_lst, kTup_non, kTup_bl, kTup_int, kTup_str, kTup_tup, kTup_lst, atI_0, atI_1, atI_2, atI_3, cop, bop, b1D, b2D, ixD, seq_eq, seqX_tup, seqX_lst, seqX_scr, derL_eq, lstX_lst, der_loc, derLoc_lst, derLoc_dct, der_non, der_bl, der_int, der_str, der_tup, der_lst, der_scr, methD, mkL, D.isNon, D.isBl, oint, E.isSkip, slD, revD, dgetD, isLstS, truD, ints?, bls?, der_lotD, der_partD, der_thrD, der_mD, der_prD, seq_lotD, seq_partD, seq_thrD, e]⟩) (mkL_ok (by simpa using lim))
      have hin : inD .non (ps.map fun q => D.lst ((inner q).map prD)) = some false := by
        rw [inD_pl (by rfl) fun y hy => by
          obtain ⟨q, hq, rfl⟩ := List.mem_map.mp hy
          have hq2 := dps_le hq
          have := dp_inner q
          exact pl_layer (by omega) 59 (by omega)]
        congr 1
        rw [List.any_eq_false]
        intro y hy
        obtain ⟨q, hq, rfl⟩ := List.mem_map.mp hy
        simp [D.same]
      have hfl : evE (cf (k + 6)) q17_0 [some (.int n), x, some (.lst (ps.map prD)), some (.int ((m : Int) + (ps.length : Int))), some (.int ((d : Int) + 1)), some (.lst (ps.map fun q => .lst ((inner q).map prD))), p, i] st = some (.lst ((ps.flatMap inner).map prD), st) := by
        have hl2 : (ps.flatMap inner).length ≤ LIM := by
          have := szs_le (ps := ps.flatMap inner)
          unfold LIM; omega
        rw [List.map_flatMap]
        refine evE_comp2 (w := ⟨ps.map fun q => .lst ((inner q).map prD), keeps (.lst (ps.map fun q => D.lst ((inner q).map prD))) (ps.map fun q => .lst ((inner q).map prD))⟩) rfl (evC2_mapL (fun q => D.lst ((inner q).map prD)) inner prD prD rfl fun q hq => ⟨_, ⟨(inner q).map prD, keeps (.lst ((inner q).map prD)) ((inner q).map prD)⟩, rfl, rfl, rfl, rfl, fun y hy => ⟨_, rfl, rfl, by simp [sl, evSs, evS, evE, evEs, evI, evG, evGs, setAll, wipeD, isD_int, isD_bool, isD_str, isD_tup, kInt_non, kInt_bl, kInt_int, kInt_str, kInt_tup, kInt_lst, kBool_non, kBool_bl, kBool_int, kBool_str, kBool_tup, kBool_lst, kStr_non, kStr_bl, kStr_int, kStr_str, kStr_tup, kStr_lst, kTup_non, kTup_bl, kTup_int, kTup_str, kTup_tup, kTup_lst, atI_0, atI_1, atI_2, atI_3, cop, bop, b1D, b2D, ixD, seq_eq, seqX_tup, seqX_lst, seqX_scr, derL_eq, lstX_lst, der_loc, derLoc_lst, derLoc_dct, der_non, der_bl, der_int, der_str, der_tup, der_lst, der_scr, methD, mkL, D.isNon, D.isBl, oint, E.isSkip, slD, revD, dgetD, isLstS, truD, ints?, bls?, der_lotD, der_partD, der_thrD, der_mD, der_prD, seq_lotD, seq_partD, seq_thrD]⟩⟩) (mkL_ok ?_)
        rw [← List.map_flatMap, List.length_map]
        exact hl2
      have c1 : ¬ ((40 : Int) < (m : Int) + (ps.length : Int)) := by omega
      have c2 : ¬ ((6 : Int) < (d : Int) + 1) := by omega
      obtain ⟨δ', ih, ih2⟩ := w17 hn h1 k x st fuel (ps.flatMap inner) (m + ps.length) (d + 1) (some (.lst (ps.map fun q => .lst ((inner q).map prD)))) p i (VPrs_next hv) (by omega) (by omega) (by omega)
      refine ⟨δ', ?_, by rw [ih2]; congr 3; omega⟩
      rw [show (((m + ps.length : Nat) : Int)) = (m : Int) + (ps.length : Int) by omega, show (((d + 1 : Nat) : Int)) = (d : Int) + 1 by omega] at ih
      have hbody : evSs (cf (k + 6)) l17_0 [some (.int n), x, some (.lst (ps.map prD)), some (.int m), some (.int d), b, p, i] st = some (.nx, [some (.int n), x, some (.lst ((ps.flatMap inner).map prD)), some (.int ((m : Int) + (ps.length : Int))), some (.int ((d : Int) + 1)), some (.lst (ps.map fun q => .lst ((inner q).map prD))), p, i], st) := by
        simp only [l17_0]
        simp [sl, evSs, evS, evE, evEs, evI, evG, evGs, setAll, wipeD, isD_int, isD_bool, isD_str, isD_tup, kInt_non, kInt_bl, kInt_int, kInt_str, kInt_tup, kInt_lst, kBool_non, kBool_bl, kBool_int, kBool_str, kBool_tup, kBool_lst, kStr_non, kStr_bl, kStr_int, kStr_str, kStr_tup, kStr_lst, kTup_non, kTup_bl, kTup_int, kTup_str, kTup_tup, kTup_lst, atI_0, atI_1, atI_2, atI_3, cop, bop, b1D, b2D, ixD, seq_eq, seqX_tup, seqX_lst, seqX_scr, derL_eq, lstX_lst, der_loc, derLoc_lst, derLoc_dct, der_non, der_bl, der_int, der_str, der_tup, der_lst, der_scr, methD, mkL, D.isNon, D.isBl, oint, E.isSkip, slD, revD, dgetD, isLstS, truD, ints?, bls?, der_lotD, der_partD, der_thrD, der_mD, der_prD, seq_lotD, seq_partD, seq_thrD, g1, g2, c1, c2, hb, hin, hfl]
      simp only [evWh, hc, Option.bind_some, hbody]
      exact ih
theorem e_parts {n : Nat} (hn : n ≤ 8) (h1 : 1 ≤ n) (k : Nat) (p : Pr) (hp : VPr n p) (hd : dp p ≤ 6) (hz : sz p ≤ 40) (st : Sto) : evCall prg (k + 7) 17 [.int n, prD p] st = some (.int (sz p : Int), st) := by
  obtain ⟨δ', w, w2⟩ := w17 hn h1 k (some (prD p)) st 2000 [p] 0 0 none none none ⟨hp, trivial⟩ (by simp [szs]; omega) (by simp [dps]; omega) (by simp [dps]; omega)
  have f : evS (cf (k + 6)) f17_0 [some (.int n), some (prD p), some (.lst [prD p]), some (.int 0), some (.int 0), none, none, none] st = some (.nx, δ', st) := w
  have lim1 : 1 ≤ LIM := by unfold LIM; omega
  have e : sz p = szs [p] := by simp [szs]
  refine call_ret0 (d := d17) rfl rfl (δ := δ') ?_ rfl
  simp only [Nat.zero_add] at w2
  rw [e]
  simp [d17, b17, sl, evSs, evS, evE, evEs, evI, evG, evGs, setAll, wipeD, isD_int, isD_bool, isD_str, isD_tup, kInt_non, kInt_bl, kInt_int, kInt_str, kInt_tup, kInt_lst, kBool_non, kBool_bl, kBool_int, kBool_str, kBool_tup, kBool_lst, kStr_non, kStr_bl, kStr_int, kStr_str, kStr_tup, kStr_lst, kTup_non, kTup_bl, kTup_int, kTup_str, kTup_tup, kTup_lst, atI_0, atI_1, atI_2, atI_3, cop, bop, b1D, b2D, ixD, seq_eq, seqX_tup, seqX_lst, seqX_scr, derL_eq, lstX_lst, der_loc, derLoc_lst, derLoc_dct, der_non, der_bl, der_int, der_str, der_tup, der_lst, der_scr, methD, mkL, D.isNon, D.isBl, oint, E.isSkip, slD, revD, dgetD, isLstS, truD, ints?, bls?, der_lotD, der_partD, der_thrD, der_mD, der_prD, seq_lotD, seq_partD, seq_thrD, f, lim1, w2]
end K82
set_option Elab.async false
set_option linter.all false
set_option maxRecDepth 100000
set_option maxHeartbeats 4000000
namespace K82
open PySem Ev
theorem rng2 : rngD 2 = [.int 0, .int 1] := rfl
theorem lim2' : (2 : Int) ≤ (LIM : Int) ∧ -(LIM : Int) ≤ 2 := by unfold LIM; omega
theorem i_rng2 (k : Nat) (δ : Ev.Env) (st : Sto) : evI (cf k) (.rng1 (.int 2)) δ st = some (⟨[.int 0, .int 1], fun _ => true⟩, st) := by
  have h := lim2'
  simp [sl, evSs, evS, evE, evEs, evI, evG, evGs, setAll, wipeD, isD_int, isD_bool, isD_str, isD_tup, kInt_non, kInt_bl, kInt_int, kInt_str, kInt_tup, kInt_lst, kBool_non, kBool_bl, kBool_int, kBool_str, kBool_tup, kBool_lst, kStr_non, kStr_bl, kStr_int, kStr_str, kStr_tup, kStr_lst, kTup_non, kTup_bl, kTup_int, kTup_str, kTup_tup, kTup_lst, atI_0, atI_1, atI_2, atI_3, cop, bop, b1D, b2D, ixD, seq_eq, seqX_tup, seqX_lst, seqX_scr, derL_eq, lstX_lst, der_loc, derLoc_lst, derLoc_dct, der_non, der_bl, der_int, der_str, der_tup, der_lst, der_scr, methD, mkL, D.isNon, D.isBl, oint, E.isSkip, slD, revD, dgetD, isLstS, truD, ints?, bls?, der_lotD, der_partD, der_thrD, der_mD, der_prD, seq_lotD, seq_partD, seq_thrD, h, rng2]
theorem evC_two {g : D → Ev.Env → Option Ev.Env} {c e : Ev.Env → Sto → Option (D × Sto)} {ok : Sto → Bool} {δ δ1 δ2 : Ev.Env} {st : Sto} {d1 d2 x1 x2 : D} (hok : ok st = true) (g1 : g d1 δ = some δ1) (c1 : c δ1 st = some (.bl true, st)) (e1 : e δ1 st = some (x1, st)) (g2 : g d2 δ = some δ2) (c2 : c δ2 st = some (.bl true, st)) (e2 : e δ2 st = some (x2, st)) :
    evC g c e ok δ [d1, d2] st = some ([x1, x2], st) := by
  simp [evC, hok, g1, c1, e1, g2, c2, e2]
/-! ### 18, 19 -/
/-- an entry of a link by evaluation -/
theorem ent {k : Nat} {δ : Ev.Env} {st : Sto} {a : E} {x : Mx} (s t : E) (i j : Bool) (ha : evE (cf k) a δ st = some (mD x, st)) (hs : evE (cf k) s δ st = some (.int (if i then 1 else 0), st)) (ht : evE (cf k) t δ st = some (.int (if j then 1 else 0), st)) :
    evE (cf k) (.ix (.ix a s) t) δ st = some (.bl (if i then (if j then x.d else x.c) else (if j then x.b else x.a)), st) := by
  cases i <;> cases j <;> simp [sl, evSs, evS, evE, evEs, evI, evG, evGs, setAll, wipeD, isD_int, isD_bool, isD_str, isD_tup, kInt_non, kInt_bl, kInt_int, kInt_str, kInt_tup, kInt_lst, kBool_non, kBool_bl, kBool_int, kBool_str, kBool_tup, kBool_lst, kStr_non, kStr_bl, kStr_int, kStr_str, kStr_tup, kStr_lst, kTup_non, kTup_bl, kTup_int, kTup_str, kTup_tup, kTup_lst, atI_0, atI_1, atI_2, atI_3, cop, bop, b1D, b2D, ixD, seq_eq, seqX_tup, seqX_lst, seqX_scr, derL_eq, lstX_lst, der_loc, derLoc_lst, derLoc_dct, der_non, der_bl, der_int, der_str, der_tup, der_lst, der_scr, methD, mkL, D.isNon, D.isBl, oint, E.isSkip, slD, revD, dgetD, isLstS, truD, ints?, bls?, der_lotD, der_partD, der_thrD, der_mD, der_prD, seq_lotD, seq_partD, seq_thrD, ha, hs, ht, mD]
theorem q18_0_eq (k : Nat) (x y : Mx) (i : Bool) (c e : Option D) (st : Sto) : evE (cf k) q18_0 [some (mD x), some (mD y), c, some (.int (if i then 1 else 0)), e] st =
    some (.lst [.bl (if i then (x.c && y.a || (x.d && y.c)) else (x.a && y.a || (x.b && y.c))), .bl (if i then (x.c && y.b || (x.d && y.d)) else (x.a && y.b || (x.b && y.d)))], st) := by
  have lim : 2 ≤ LIM := by unfold LIM; omega
  have h := lim2'
  refine evE_comp (w := ⟨[.int 0, .int 1], fun _ => true⟩) (i_rng2 _ _ _) ?_ (mkL_ok (xs := [_, _]) lim)
  have go : ∀ j : Bool, evE (cf k) (.or (.and (.ix (.ix (.var 0) (.var 3)) (.int 0)) (.ix (.ix (.var 1) (.int 0)) (.var 4))) (.and (.ix (.ix (.var 0) (.var 3)) (.int 1)) (.ix (.ix (.var 1) (.int 1)) (.var 4)))) [some (mD x), some (mD y), c, some (.int (if i then 1 else 0)), some (.int (if j then 1 else 0))] st =
      some (.bl (((if i then x.c else x.a) && (if j then y.b else y.a)) || ((if i then x.d else x.b) && (if j then y.d else y.c))), st) := by
    intro j
    have e1 := ent (k := k) (δ := [some (mD x), some (mD y), c, some (.int (if i then 1 else 0)), some (.int (if j then 1 else 0))]) (st := st) (a := .var 0) (x := x) (.var 3) (.int 0) i false rfl rfl rfl
    have e2 := ent (k := k) (δ := [some (mD x), some (mD y), c, some (.int (if i then 1 else 0)), some (.int (if j then 1 else 0))]) (st := st) (a := .var 1) (x := y) (.int 0) (.var 4) false j rfl rfl rfl
    have e3 := ent (k := k) (δ := [some (mD x), some (mD y), c, some (.int (if i then 1 else 0)), some (.int (if j then 1 else 0))]) (st := st) (a := .var 0) (x := x) (.var 3) (.int 1) i true rfl rfl rfl
    have e4 := ent (k := k) (δ := [some (mD x), some (mD y), c, some (.int (if i then 1 else 0)), some (.int (if j then 1 else 0))]) (st := st) (a := .var 1) (x := y) (.int 1) (.var 4) true j rfl rfl rfl
    have a1 := evE_and e1 fun _ => e2
    have a2 := evE_and e3 fun _ => e4
    have := evE_or a1 fun _ => a2
    rw [this]
    cases i <;> cases j <;> rfl
  refine (evC_two rfl rfl rfl (go false) rfl rfl (go true)).trans ?_
  cases i <;> rfl
theorem e_then (k : Nat) (x y : Mx) (st : Sto) : evCall prg (k + 1) 18 [mD x, mD y] st = some (mD (x.thn y), st) := by
  have lim0 : 0 ≤ LIM := by unfold LIM; omega
  have h := lim2'
  have q0 := fun c e st => q18_0_eq k x y false c e st
  have q1 := fun c e st => q18_0_eq k x y true c e st
  simp only [Bool.false_eq_true, if_false, if_true] at q0 q1
  have f : evS (cf k) f18_0 [some (mD x), some (mD y), some (.loc st.length), none, none] (st ++ [.lst []]) = some (.nx, [some (mD x), some (mD y), some (.loc st.length), some (.int 1), none], st ++ [.lst [.tup [.bl (x.a && y.a || (x.b && y.c)), .bl (x.a && y.b || (x.b && y.d))], .tup [.bl (x.c && y.a || (x.d && y.c)), .bl (x.c && y.b || (x.d && y.d))]]]) := by
    refine evS_for (w := ⟨[.int 0, .int 1], fun _ => true⟩) (i_rng2 _ _ _) ?_
    have l0 : 0 < LIM := by unfold LIM; omega
    have l1 : 1 < LIM := by unfold LIM; omega
    simp [evFor, evG, l18_0, sl, evSs, evS, evE, evEs, evI, evG, evGs, setAll, wipeD, isD_int, isD_bool, isD_str, isD_tup, kInt_non, kInt_bl, kInt_int, kInt_str, kInt_tup, kInt_lst, kBool_non, kBool_bl, kBool_int, kBool_str, kBool_tup, kBool_lst, kStr_non, kStr_bl, kStr_int, kStr_str, kStr_tup, kStr_lst, kTup_non, kTup_bl, kTup_int, kTup_str, kTup_tup, kTup_lst, atI_0, atI_1, atI_2, atI_3, cop, bop, b1D, b2D, ixD, seq_eq, seqX_tup, seqX_lst, seqX_scr, derL_eq, lstX_lst, der_loc, derLoc_lst, derLoc_dct, der_non, der_bl, der_int, der_str, der_tup, der_lst, der_scr, methD, mkL, D.isNon, D.isBl, oint, E.isSkip, slD, revD, dgetD, isLstS, truD, ints?, bls?, der_lotD, der_partD, der_thrD, der_mD, der_prD, seq_lotD, seq_partD, seq_thrD, q0, q1, get_last, set_last, l0, l1]
  refine call_ret (d := d18) (ex := [.lst [.tup [.bl (x.a && y.a || (x.b && y.c)), .bl (x.a && y.b || (x.b && y.d))], .tup [.bl (x.c && y.a || (x.d && y.c)), .bl (x.c && y.b || (x.d && y.d))]]]) rfl rfl (δ := [some (mD x), some (mD y), some (.loc st.length), some (.int 1), none]) ?_ (bel_m _)
  simp [d18, b18, sl, evSs, evS, evE, evEs, evI, evG, evGs, setAll, wipeD, isD_int, isD_bool, isD_str, isD_tup, kInt_non, kInt_bl, kInt_int, kInt_str, kInt_tup, kInt_lst, kBool_non, kBool_bl, kBool_int, kBool_str, kBool_tup, kBool_lst, kStr_non, kStr_bl, kStr_int, kStr_str, kStr_tup, kStr_lst, kTup_non, kTup_bl, kTup_int, kTup_str, kTup_tup, kTup_lst, atI_0, atI_1, atI_2, atI_3, cop, bop, b1D, b2D, ixD, seq_eq, seqX_tup, seqX_lst, seqX_scr, derL_eq, lstX_lst, der_loc, derLoc_lst, derLoc_dct, der_non, der_bl, der_int, der_str, der_tup, der_lst, der_scr, methD, mkL, D.isNon, D.isBl, oint, E.isSkip, slD, revD, dgetD, isLstS, truD, ints?, bls?, der_lotD, der_partD, der_thrD, der_mD, der_prD, seq_lotD, seq_partD, seq_thrD, lim0, f, get_last]
  simp [mD, Mx.thn]
theorem q19_0_eq (k : Nat) (x y : Mx) (i : Bool) (e : Option D) (st : Sto) : evE (cf k) q19_0 [some (mD x), some (mD y), some (.int (if i then 1 else 0)), e] st =
    some (.lst [.bl (if i then (x.c || y.c) else (x.a || y.a)), .bl (if i then (x.d || y.d) else (x.b || y.b))], st) := by
  have lim : 2 ≤ LIM := by unfold LIM; omega
  have h := lim2'
  refine evE_comp (w := ⟨[.int 0, .int 1], fun _ => true⟩) (i_rng2 _ _ _) ?_ (mkL_ok (xs := [_, _]) lim)
  have go : ∀ j : Bool, evE (cf k) (.or (.ix (.ix (.var 0) (.var 2)) (.var 3)) (.ix (.ix (.var 1) (.var 2)) (.var 3))) [some (mD x), some (mD y), some (.int (if i then 1 else 0)), some (.int (if j then 1 else 0))] st =
      some (.bl ((if i then (if j then x.d else x.c) else (if j then x.b else x.a)) || (if i then (if j then y.d else y.c) else (if j then y.b else y.a))), st) := by
    intro j
    have e1 := ent (k := k) (δ := [some (mD x), some (mD y), some (.int (if i then 1 else 0)), some (.int (if j then 1 else 0))]) (st := st) (a := .var 0) (x := x) (.var 2) (.var 3) i j rfl rfl rfl
    have e2 := ent (k := k) (δ := [some (mD x), some (mD y), some (.int (if i then 1 else 0)), some (.int (if j then 1 else 0))]) (st := st) (a := .var 1) (x := y) (.var 2) (.var 3) i j rfl rfl rfl
    exact evE_or e1 fun _ => e2
  refine (evC_two rfl rfl rfl (go false) rfl rfl (go true)).trans ?_
  cases i <;> rfl
theorem e_or (k : Nat) (x y : Mx) (st : Sto) : evCall prg (k + 1) 19 [mD x, mD y] st = some (mD (x.or y), st) := by
  have h := lim2'
  have q0 := fun e st => q19_0_eq k x y false e st
  have q1 := fun e st => q19_0_eq k x y true e st
  simp only [Bool.false_eq_true, if_false, if_true] at q0 q1
  have lim : 2 ≤ LIM := by unfold LIM; omega
  have q : evE (cf k) q19_1 [some (mD x), some (mD y), none, none] st = some (.lst [.tup [.bl (x.a || y.a), .bl (x.b || y.b)], .tup [.bl (x.c || y.c), .bl (x.d || y.d)]], st) := by
    refine evE_comp (w := ⟨[.int 0, .int 1], fun _ => true⟩) (i_rng2 _ _ _) ?_ (mkL_ok (xs := [_, _]) lim)
    simp [evC, sl, evSs, evS, evE, evEs, evI, evG, evGs, setAll, wipeD, isD_int, isD_bool, isD_str, isD_tup, kInt_non, kInt_bl, kInt_int, kInt_str, kInt_tup, kInt_lst, kBool_non, kBool_bl, kBool_int, kBool_str, kBool_tup, kBool_lst, kStr_non, kStr_bl, kStr_int, kStr_str, kStr_tup, kStr_lst, kTup_non, kTup_bl, kTup_int, kTup_str, kTup_tup, kTup_lst, atI_0, atI_1, atI_2, atI_3, cop, bop, b1D, b2D, ixD, seq_eq, seqX_tup, seqX_lst, seqX_scr, derL_eq, lstX_lst, der_loc, derLoc_lst, derLoc_dct, der_non, der_bl, der_int, der_str, der_tup, der_lst, der_scr, methD, mkL, D.isNon, D.isBl, oint, E.isSkip, slD, revD, dgetD, isLstS, truD, ints?, bls?, der_lotD, der_partD, der_thrD, der_mD, der_prD, seq_lotD, seq_partD, seq_thrD, q0, q1]
  refine call_ret0 (d := d19) rfl rfl (δ := [some (mD x), some (mD y), none, none]) ?_ (bel_m _)
  simp [d19, b19, sl, evSs, evS, evE, evEs, evI, evG, evGs, setAll, wipeD, isD_int, isD_bool, isD_str, isD_tup, kInt_non, kInt_bl, kInt_int, kInt_str, kInt_tup, kInt_lst, kBool_non, kBool_bl, kBool_int, kBool_str, kBool_tup, kBool_lst, kStr_non, kStr_bl, kStr_int, kStr_str, kStr_tup, kStr_lst, kTup_non, kTup_bl, kTup_int, kTup_str, kTup_tup, kTup_lst, atI_0, atI_1, atI_2, atI_3, cop, bop, b1D, b2D, ixD, seq_eq, seqX_tup, seqX_lst, seqX_scr, derL_eq, lstX_lst, der_loc, derLoc_lst, derLoc_dct, der_non, der_bl, der_int, der_str, der_tup, der_lst, der_scr, methD, mkL, D.isNon, D.isBl, oint, E.isSkip, slD, revD, dgetD, isLstS, truD, ints?, bls?, der_lotD, der_partD, der_thrD, der_mD, der_prD, seq_lotD, seq_partD, seq_thrD, q]
  simp [mD, Mx.or]
/-! ### 20 -/
def byWay : List (PySem.Str × D) := [("ahead", mD mAhead), ("behind", mD mBehind), ("kept", mD mSame), ("turned", mD mTurn)]
theorem by_way1 : prg.gd "BY_WAY" = some byWay := rfl
theorem by_way (t : Thr) (a b : Int) : byWay.lookup (wayS t a b) = some (mD (wayM t a b)) := by
  unfold wayS wayM
  split
  · split
    · rfl
    · rfl
  · split
    · rfl
    · rfl
theorem fold_then (k : Nat) (ok : Sto → Bool) (hok : ∀ s, ok s = true) (st : Sto) (p a b c d e f g : Option D) : ∀ (ms : List Mx) (m : Mx) (u : Option D), ∃ u', evFor (evG (.name 6)) (evSs (cf (k + 1)) l20_1) ok (ms.map mD) [p, a, b, c, d, some (mD m), u, e, f] st = some (.nx, [p, a, b, c, d, some (mD (ms.foldl Mx.thn m)), u', e, f], st)
  | [], m, u => ⟨u, by simp [evFor, hok]⟩
  | x :: ms, m, u => by
    obtain ⟨u', ih⟩ := fold_then k ok hok st p a b c d e f g ms (m.thn x) (some (mD x))
    refine ⟨u', ?_⟩
    rw [List.map_cons, evFor_cons (hok _) (δ1 := [p, a, b, c, d, some (mD m), some (mD x), e, f]) (δ2 := [p, a, b, c, d, some (mD (m.thn x)), some (mD x), e, f]) (st2 := st) (by simp [evG]) (by simp [l20_1, sl, evSs, evS, evE, evEs, evI, evG, evGs, setAll, wipeD, isD_int, isD_bool, isD_str, isD_tup, kInt_non, kInt_bl, kInt_int, kInt_str, kInt_tup, kInt_lst, kBool_non, kBool_bl, kBool_int, kBool_str, kBool_tup, kBool_lst, kStr_non, kStr_bl, kStr_int, kStr_str, kStr_tup, kStr_lst, kTup_non, kTup_bl, kTup_int, kTup_str, kTup_tup, kTup_lst, atI_0, atI_1, atI_2, atI_3, cop, bop, b1D, b2D, ixD, seq_eq, seqX_tup, seqX_lst, seqX_scr, derL_eq, lstX_lst, der_loc, derLoc_lst, derLoc_dct, der_non, der_bl, der_int, der_str, der_tup, der_lst, der_scr, methD, mkL, D.isNon, D.isBl, oint, E.isSkip, slD, revD, dgetD, isLstS, truD, ints?, bls?, der_lotD, der_partD, der_thrD, der_mD, der_prD, seq_lotD, seq_partD, seq_thrD, e_then]), ih]
    rfl
theorem fold_or (k : Nat) (ok : Sto → Bool) (hok : ∀ s, ok s = true) (st : Sto) (p a b c d e f g : Option D) : ∀ (ms : List Mx) (m : Mx) (u : Option D), ∃ u', evFor (evG (.name 6)) (evSs (cf (k + 1)) l20_0) ok (ms.map mD) [p, a, b, c, d, some (mD m), u, e, f] st = some (.nx, [p, a, b, c, d, some (mD (ms.foldl Mx.or m)), u', e, f], st)
  | [], m, u => ⟨u, by simp [evFor, hok]⟩
  | x :: ms, m, u => by
    obtain ⟨u', ih⟩ := fold_or k ok hok st p a b c d e f g ms (m.or x) (some (mD x))
    refine ⟨u', ?_⟩
    rw [List.map_cons, evFor_cons (hok _) (δ1 := [p, a, b, c, d, some (mD m), some (mD x), e, f]) (δ2 := [p, a, b, c, d, some (mD (m.or x)), some (mD x), e, f]) (st2 := st) (by simp [evG]) (by simp [l20_0, sl, evSs, evS, evE, evEs, evI, evG, evGs, setAll, wipeD, isD_int, isD_bool, isD_str, isD_tup, kInt_non, kInt_bl, kInt_int, kInt_str, kInt_tup, kInt_lst, kBool_non, kBool_bl, kBool_int, kBool_str, kBool_tup, kBool_lst, kStr_non, kStr_bl, kStr_int, kStr_str, kStr_tup, kStr_lst, kTup_non, kTup_bl, kTup_int, kTup_str, kTup_tup, kTup_lst, atI_0, atI_1, atI_2, atI_3, cop, bop, b1D, b2D, ixD, seq_eq, seqX_tup, seqX_lst, seqX_scr, derL_eq, lstX_lst, der_loc, derLoc_lst, derLoc_dct, der_non, der_bl, der_int, der_str, der_tup, der_lst, der_scr, methD, mkL, D.isNon, D.isBl, oint, E.isSkip, slD, revD, dgetD, isLstS, truD, ints?, bls?, der_lotD, der_partD, der_thrD, der_mD, der_prD, seq_lotD, seq_partD, seq_thrD, e_or]), ih]
    rfl
end K82
set_option Elab.async false
set_option linter.all false
set_option maxRecDepth 100000
set_option maxHeartbeats 4000000
namespace K82
open PySem Ev
theorem deq_bl (x y : Bool) : deq (.bl x) (.bl y) = some (x == y) := by cases x <;> cases y <;> rfl
theorem mem_sz {ps : List Pr} {p : Pr} (h : p ∈ ps) : sz p ≤ szs ps := by
  induction ps with
  | nil => simp at h
  | cons q ps ih =>
    rcases List.mem_cons.mp h with rfl | h
    · simp [szs]
    · have := ih h; simp [szs]; omega
theorem e_link {n : Nat} (a b : Int) (ha : 0 ≤ a ∧ a < n) (hb : 0 ≤ b ∧ b < n) (st : Sto) (j : Nat) : ∀ (m : Nat) (p : Pr), dp p ≤ m → VPr n p → sz p ≤ 1000 → evCall prg (m + 4 + j) 20 [prD p, .int a, .int b] st = some (mD (link p a b), st)
  | 0, p, hd, _, _ => by have := dp_inner p; omega
  | m + 1, p, hd, hv, hz => by
    have ih := e_link a b ha hb st j m
    rw [show m + 1 + 4 + j = (m + 4 + j) + 1 by omega]
    cases p with
    | throw t =>
      have e1 := e_raw_way (m + 2 + j) t hv a b ha hb st
      rw [show m + 2 + j + 2 = m + 4 + j by omega] at e1
      have e2 := by_way t a b
      refine call_ret0 (d := d20) rfl rfl (δ := [some (prD (.throw t)), some (.int a), some (.int b), some (.str "throw"), none, none, none, none, none]) ?_ (bel_m _)
      have d1 := deq_str "throw" "throw" ok_throw ok_throw
      simp [d20, b20, sl, evSs, evS, evE, evEs, evI, evG, evGs, setAll, wipeD, isD_int, isD_bool, isD_str, isD_tup, kInt_non, kInt_bl, kInt_int, kInt_str, kInt_tup, kInt_lst, kBool_non, kBool_bl, kBool_int, kBool_str, kBool_tup, kBool_lst, kStr_non, kStr_bl, kStr_int, kStr_str, kStr_tup, kStr_lst, kTup_non, kTup_bl, kTup_int, kTup_str, kTup_tup, kTup_lst, atI_0, atI_1, atI_2, atI_3, cop, bop, b1D, b2D, ixD, seq_eq, seqX_tup, seqX_lst, seqX_scr, derL_eq, lstX_lst, der_loc, derLoc_lst, derLoc_dct, der_non, der_bl, der_int, der_str, der_tup, der_lst, der_scr, methD, mkL, D.isNon, D.isBl, oint, E.isSkip, slD, revD, dgetD, isLstS, truD, ints?, bls?, der_lotD, der_partD, der_thrD, der_mD, der_prD, seq_lotD, seq_partD, seq_thrD, prD, d1, e1, by_way1, e2, link]
    | parted l p q =>
      have d1 := deq_str "parted" "throw" ok_parted ok_throw
      have d2 := deq_str "parted" "parted" ok_parted ok_parted
      have g : prg.gl "ANYHOW" = some (mD mAny) := rfl
      simp only [dp] at hd
      simp only [sz] at hz
      have i1 := ih p (by omega) hv.2.1 (by omega)
      have i2 := ih q (by omega) hv.2.2 (by omega)
      refine call_ret0 (d := d20) rfl rfl (δ := [some (prD (.parted l p q)), some (.int a), some (.int b), some (.str "parted"), none, none, none, none, none]) ?_ (bel_m _)
      have ka := inD_ints a l
      have kb := inD_ints b l
      by_cases h1 : a ∈ l <;> by_cases h2 : b ∈ l <;>
        simp [d20, b20, sl, evSs, evS, evE, evEs, evI, evG, evGs, setAll, wipeD, isD_int, isD_bool, isD_str, isD_tup, kInt_non, kInt_bl, kInt_int, kInt_str, kInt_tup, kInt_lst, kBool_non, kBool_bl, kBool_int, kBool_str, kBool_tup, kBool_lst, kStr_non, kStr_bl, kStr_int, kStr_str, kStr_tup, kStr_lst, kTup_non, kTup_bl, kTup_int, kTup_str, kTup_tup, kTup_lst, atI_0, atI_1, atI_2, atI_3, cop, bop, b1D, b2D, ixD, seq_eq, seqX_tup, seqX_lst, seqX_scr, derL_eq, lstX_lst, der_loc, derLoc_lst, derLoc_dct, der_non, der_bl, der_int, der_str, der_tup, der_lst, der_scr, methD, mkL, D.isNon, D.isBl, oint, E.isSkip, slD, revD, dgetD, isLstS, truD, ints?, bls?, der_lotD, der_partD, der_thrD, der_mD, der_prD, seq_lotD, seq_partD, seq_thrD, prD, d1, d2, s_parted_throw, ka, kb, h1, h2, deq_bl, g, i1, i2, link]
    | often p =>
      have d1 := deq_str "often" "throw" ok_often ok_throw
      have d2 := deq_str "often" "parted" ok_often ok_parted
      have d3 := deq_str "often" "often" ok_often ok_often
      have g : prg.gl "SAME" = some (mD mSame) := rfl
      simp only [dp] at hd
      simp only [sz] at hz
      have i1 := ih p (by omega) hv (by omega)
      have e1 := e_or (m + 3 + j) mSame (link p a b) st
      have e2 := e_then (m + 3 + j) (mSame.or (link p a b)) (mSame.or (link p a b)) st
      rw [show m + 3 + j + 1 = m + 4 + j by omega] at e1 e2
      refine call_ret0 (d := d20) rfl rfl (δ := [some (prD (.often p)), some (.int a), some (.int b), some (.str "often"), none, none, none, some (mD (mSame.or (link p a b))), none]) ?_ (bel_m _)
      simp [d20, b20, sl, evSs, evS, evE, evEs, evI, evG, evGs, setAll, wipeD, isD_int, isD_bool, isD_str, isD_tup, kInt_non, kInt_bl, kInt_int, kInt_str, kInt_tup, kInt_lst, kBool_non, kBool_bl, kBool_int, kBool_str, kBool_tup, kBool_lst, kStr_non, kStr_bl, kStr_int, kStr_str, kStr_tup, kStr_lst, kTup_non, kTup_bl, kTup_int, kTup_str, kTup_tup, kTup_lst, atI_0, atI_1, atI_2, atI_3, cop, bop, b1D, b2D, ixD, seq_eq, seqX_tup, seqX_lst, seqX_scr, derL_eq, lstX_lst, der_loc, derLoc_lst, derLoc_dct, der_non, der_bl, der_int, der_str, der_tup, der_lst, der_scr, methD, mkL, D.isNon, D.isBl, oint, E.isSkip, slD, revD, dgetD, isLstS, truD, ints?, bls?, der_lotD, der_partD, der_thrD, der_mD, der_prD, seq_lotD, seq_partD, seq_thrD, prD, d1, d2, d3, s_often_throw, s_often_parted, g, i1, e1, e2, link, Mx.oft]
    | row ps =>
      have d1 := deq_str "row" "throw" ok_row ok_throw
      have d2 := deq_str "row" "parted" ok_row ok_parted
      have d3 := deq_str "row" "often" ok_row ok_often
      have d4 := deq_str "row" "row" ok_row ok_row
      have g : prg.gl "SAME" = some (mD mSame) := rfl
      simp only [dp] at hd
      simp only [sz] at hz
      have lim : ps.length ≤ LIM := by have := szs_le (ps := ps); unfold LIM; omega
      have q : evE (cf (m + 4 + j)) q20_0 [some (.tup [.str "row", .tup (ps.map prD)]), some (.int a), some (.int b), some (.str "row"), none, none, none, none, none] st = some (.lst ((ps.map fun p => link p a b).map mD), st) := by
        rw [List.map_map]
        refine evE_comp (w := ⟨ps.map prD, fun st => keeps (.tup (ps.map prD)) (ps.map prD) st⟩) (by simp [sl, evSs, evS, evE, evEs, evI, evG, evGs, setAll, wipeD, isD_int, isD_bool, isD_str, isD_tup, kInt_non, kInt_bl, kInt_int, kInt_str, kInt_tup, kInt_lst, kBool_non, kBool_bl, kBool_int, kBool_str, kBool_tup, kBool_lst, kStr_non, kStr_bl, kStr_int, kStr_str, kStr_tup, kStr_lst, kTup_non, kTup_bl, kTup_int, kTup_str, kTup_tup, kTup_lst, atI_0, atI_1, atI_2, atI_3, cop, bop, b1D, b2D, ixD, seq_eq, seqX_tup, seqX_lst, seqX_scr, derL_eq, lstX_lst, der_loc, derLoc_lst, derLoc_dct, der_non, der_bl, der_int, der_str, der_tup, der_lst, der_scr, methD, mkL, D.isNon, D.isBl, oint, E.isSkip, slD, revD, dgetD, isLstS, truD, ints?, bls?, der_lotD, der_partD, der_thrD, der_mD, der_prD, seq_lotD, seq_partD, seq_thrD]) (evC_mapL prD (mD ∘ fun p => link p a b) rfl fun p hp => ⟨_, rfl, rfl, ?_⟩) (mkL_ok (by simpa using lim))
        have := ih p (by have := dps_le hp; omega) (VPrs_mem.mp hv p hp) (by have := mem_sz hp; omega)
        simp [sl, evSs, evS, evE, evEs, evI, evG, evGs, setAll, wipeD, isD_int, isD_bool, isD_str, isD_tup, kInt_non, kInt_bl, kInt_int, kInt_str, kInt_tup, kInt_lst, kBool_non, kBool_bl, kBool_int, kBool_str, kBool_tup, kBool_lst, kStr_non, kStr_bl, kStr_int, kStr_str, kStr_tup, kStr_lst, kTup_non, kTup_bl, kTup_int, kTup_str, kTup_tup, kTup_lst, atI_0, atI_1, atI_2, atI_3, cop, bop, b1D, b2D, ixD, seq_eq, seqX_tup, seqX_lst, seqX_scr, derL_eq, lstX_lst, der_loc, derLoc_lst, derLoc_dct, der_non, der_bl, der_int, der_str, der_tup, der_lst, der_scr, methD, mkL, D.isNon, D.isBl, oint, E.isSkip, slD, revD, dgetD, isLstS, truD, ints?, bls?, der_lotD, der_partD, der_thrD, der_mD, der_prD, seq_lotD, seq_partD, seq_thrD, this]
      obtain ⟨u', f0⟩ := fold_then (m + 3 + j) (keeps (.lst ((ps.map fun p => link p a b).map mD)) ((ps.map fun p => link p a b).map mD)) (fun _ => rfl) st (some (.tup [.str "row", .tup (ps.map prD)])) (some (.int a)) (some (.int b)) (some (.str "row")) (some (.lst ((ps.map fun p => link p a b).map mD))) none none none (ps.map fun p => link p a b) mSame none
      rw [show m + 3 + j + 1 = m + 4 + j by omega] at f0
      have f : evS (cf (m + 4 + j)) f20_1 [some (.tup [.str "row", .tup (ps.map prD)]), some (.int a), some (.int b), some (.str "row"), some (.lst ((ps.map fun p => link p a b).map mD)), some (mD mSame), none, none, none] st = some (.nx, [some (.tup [.str "row", .tup (ps.map prD)]), some (.int a), some (.int b), some (.str "row"), some (.lst ((ps.map fun p => link p a b).map mD)), some (mD ((ps.map fun p => link p a b).foldl Mx.thn mSame)), u', none, none], st) :=
        evS_for (w := ⟨(ps.map fun p => link p a b).map mD, keeps (.lst ((ps.map fun p => link p a b).map mD)) ((ps.map fun p => link p a b).map mD)⟩) rfl f0
      refine call_ret0 (d := d20) rfl rfl (δ := [some (.tup [.str "row", .tup (ps.map prD)]), some (.int a), some (.int b), some (.str "row"), some (.lst ((ps.map fun p => link p a b).map mD)), some (mD ((ps.map fun p => link p a b).foldl Mx.thn mSame)), u', none, none]) ?_ (bel_m _)
      have hl : link (.row ps) a b = (ps.map fun p => link p a b).foldl Mx.thn mSame := by rw [link, links_map]
      rw [hl]
      clear f0 ih
      generalize (ps.map fun p => link p a b) = ms at q f ⊢
      simp [d20, b20, sl, evSs, evS, evE, evEs, evI, evG, evGs, setAll, wipeD, isD_int, isD_bool, isD_str, isD_tup, kInt_non, kInt_bl, kInt_int, kInt_str, kInt_tup, kInt_lst, kBool_non, kBool_bl, kBool_int, kBool_str, kBool_tup, kBool_lst, kStr_non, kStr_bl, kStr_int, kStr_str, kStr_tup, kStr_lst, kTup_non, kTup_bl, kTup_int, kTup_str, kTup_tup, kTup_lst, atI_0, atI_1, atI_2, atI_3, cop, bop, b1D, b2D, ixD, seq_eq, seqX_tup, seqX_lst, seqX_scr, derL_eq, lstX_lst, der_loc, derLoc_lst, derLoc_dct, der_non, der_bl, der_int, der_str, der_tup, der_lst, der_scr, methD, mkL, D.isNon, D.isBl, oint, E.isSkip, slD, revD, dgetD, isLstS, truD, ints?, bls?, der_lotD, der_partD, der_thrD, der_mD, der_prD, seq_lotD, seq_partD, seq_thrD, prD, prDs_map, d1, d2, d3, d4, s_row_throw, s_row_parted, s_row_often, g, q, f]
    | choice ps =>
      have d1 := deq_str "choice" "throw" ok_choice ok_throw
      have d2 := deq_str "choice" "parted" ok_choice ok_parted
      have d3 := deq_str "choice" "often" ok_choice ok_often
      have d4 := deq_str "choice" "row" ok_choice ok_row
      simp only [dp] at hd
      simp only [sz] at hz
      have lim : ps.length ≤ LIM := by have := szs_le (ps := ps); unfold LIM; omega
      have q : evE (cf (m + 4 + j)) q20_0 [some (.tup [.str "choice", .tup (ps.map prD)]), some (.int a), some (.int b), some (.str "choice"), none, none, none, none, none] st = some (.lst ((ps.map fun p => link p a b).map mD), st) := by
        rw [List.map_map]
        refine evE_comp (w := ⟨ps.map prD, fun st => keeps (.tup (ps.map prD)) (ps.map prD) st⟩) (by simp [sl, evSs, evS, evE, evEs, evI, evG, evGs, setAll, wipeD, isD_int, isD_bool, isD_str, isD_tup, kInt_non, kInt_bl, kInt_int, kInt_str, kInt_tup, kInt_lst, kBool_non, kBool_bl, kBool_int, kBool_str, kBool_tup, kBool_lst, kStr_non, kStr_bl, kStr_int, kStr_str, kStr_tup, kStr_lst, kTup_non, kTup_bl, kTup_int, kTup_str, kTup_tup, kTup_lst, atI_0, atI_1, atI_2, atI_3, cop, bop, b1D, b2D, ixD, seq_eq, seqX_tup, seqX_lst, seqX_scr, derL_eq, lstX_lst, der_loc, derLoc_lst, derLoc_dct, der_non, der_bl, der_int, der_str, der_tup, der_lst, der_scr, methD, mkL, D.isNon, D.isBl, oint, E.isSkip, slD, revD, dgetD, isLstS, truD, ints?, bls?, der_lotD, der_partD, der_thrD, der_mD, der_prD, seq_lotD, seq_partD, seq_thrD]) (evC_mapL prD (mD ∘ fun p => link p a b) rfl fun p hp => ⟨_, rfl, rfl, ?_⟩) (mkL_ok (by simpa using lim))
        have := ih p (by have := dps_le hp; omega) (VPrs_mem.mp hv.2 p hp) (by have := mem_sz hp; omega)
        simp [sl, evSs, evS, evE, evEs, evI, evG, evGs, setAll, wipeD, isD_int, isD_bool, isD_str, isD_tup, kInt_non, kInt_bl, kInt_int, kInt_str, kInt_tup, kInt_lst, kBool_non, kBool_bl, kBool_int, kBool_str, kBool_tup, kBool_lst, kStr_non, kStr_bl, kStr_int, kStr_str, kStr_tup, kStr_lst, kTup_non, kTup_bl, kTup_int, kTup_str, kTup_tup, kTup_lst, atI_0, atI_1, atI_2, atI_3, cop, bop, b1D, b2D, ixD, seq_eq, seqX_tup, seqX_lst, seqX_scr, derL_eq, lstX_lst, der_loc, derLoc_lst, derLoc_dct, der_non, der_bl, der_int, der_str, der_tup, der_lst, der_scr, methD, mkL, D.isNon, D.isBl, oint, E.isSkip, slD, revD, dgetD, isLstS, truD, ints?, bls?, der_lotD, der_partD, der_thrD, der_mD, der_prD, seq_lotD, seq_partD, seq_thrD, this]
      obtain ⟨p0, ps', rfl⟩ : ∃ p0 ps', ps = p0 :: ps' := by
        cases ps with
        | nil => exact absurd rfl hv.1
        | cons p0 ps' => exact ⟨p0, ps', rfl⟩
      have lim2 : ps'.length ≤ LIM := by simp at lim; omega
      obtain ⟨u', f0⟩ := fold_or (m + 3 + j) (keeps (.lst ((ps'.map fun p => link p a b).map mD)) ((ps'.map fun p => link p a b).map mD)) (fun _ => rfl) st (some (.tup [.str "choice", .tup ((p0 :: ps').map prD)])) (some (.int a)) (some (.int b)) (some (.str "choice")) (some (.lst (((p0 :: ps').map fun p => link p a b).map mD))) none none none (ps'.map fun p => link p a b) (link p0 a b) none
      rw [show m + 3 + j + 1 = m + 4 + j by omega] at f0
      have hs : slD false (.lst (((p0 :: ps').map fun p => link p a b).map mD)) (some 1) none st = some (.lst ((ps'.map fun p => link p a b).map mD), st) := by
        show mkL false (cutD (((p0 :: ps').map fun p => link p a b).map mD) (some 1) none) st = _
        rw [cut_1]
        exact mkL_ok (by simpa using lim2)
      have f : evS (cf (m + 4 + j)) f20_0 [some (.tup [.str "choice", .tup ((p0 :: ps').map prD)]), some (.int a), some (.int b), some (.str "choice"), some (.lst (((p0 :: ps').map fun p => link p a b).map mD)), some (mD (link p0 a b)), none, none, none] st = some (.nx, [some (.tup [.str "choice", .tup ((p0 :: ps').map prD)]), some (.int a), some (.int b), some (.str "choice"), some (.lst (((p0 :: ps').map fun p => link p a b).map mD)), some (mD ((ps'.map fun p => link p a b).foldl Mx.or (link p0 a b))), u', none, none], st) := by
        refine evS_for (w := ⟨(ps'.map fun p => link p a b).map mD, keeps (.lst ((ps'.map fun p => link p a b).map mD)) ((ps'.map fun p => link p a b).map mD)⟩) ?_ f0
        simp only [evI, evE, oint, E.isSkip, List.getElem?_cons_succ, List.getElem?_cons_zero, Option.bind_some, if_true, Bool.false_eq_true, if_false, hs]
        rfl
      refine call_ret0 (d := d20) rfl rfl (δ := [some (.tup [.str "choice", .tup ((p0 :: ps').map prD)]), some (.int a), some (.int b), some (.str "choice"), some (.lst (((p0 :: ps').map fun p => link p a b).map mD)), some (mD ((ps'.map fun p => link p a b).foldl Mx.or (link p0 a b))), u', none, none]) ?_ (bel_m _)
      have hl : link (.choice (p0 :: ps')) a b = (ps'.map fun p => link p a b).foldl Mx.or (link p0 a b) := by rw [link, links_map]; rfl
      rw [hl]
      clear f0 ih hs
      simp only [List.map_cons] at q f ⊢
      generalize (ps'.map fun p => link p a b) = ms at q f ⊢
      simp [d20, b20, sl, evSs, evS, evE, evEs, evI, evG, evGs, setAll, wipeD, isD_int, isD_bool, isD_str, isD_tup, kInt_non, kInt_bl, kInt_int, kInt_str, kInt_tup, kInt_lst, kBool_non, kBool_bl, kBool_int, kBool_str, kBool_tup, kBool_lst, kStr_non, kStr_bl, kStr_int, kStr_str, kStr_tup, kStr_lst, kTup_non, kTup_bl, kTup_int, kTup_str, kTup_tup, kTup_lst, atI_0, atI_1, atI_2, atI_3, cop, bop, b1D, b2D, ixD, seq_eq, seqX_tup, seqX_lst, seqX_scr, derL_eq, lstX_lst, der_loc, derLoc_lst, derLoc_dct, der_non, der_bl, der_int, der_str, der_tup, der_lst, der_scr, methD, mkL, D.isNon, D.isBl, oint, E.isSkip, slD, revD, dgetD, isLstS, truD, ints?, bls?, der_lotD, der_partD, der_thrD, der_mD, der_prD, seq_lotD, seq_partD, seq_thrD, prD, prDs_map, d1, d2, d3, d4, s_choice_throw, s_choice_parted, s_choice_often, s_choice_row, q, f]
end K82
set_option Elab.async false
set_option linter.all false
set_option maxRecDepth 100000
set_option maxHeartbeats 4000000
namespace K82
open PySem Ev
structure GP (n : Nat) (p : Pr) : Prop where
  v : VPr n p
  d : dp p ≤ 6
  z : sz p ≤ 40
abbrev Rn (n : Nat) (a : Int) : Prop := 0 ≤ a ∧ a < (n : Int)
theorem e_link6 {n : Nat} {a b : Int} (ha : Rn n a) (hb : Rn n b) (k : Nat) {p : Pr} (g : GP n p) (st : Sto) : evCall prg (k + 10) 20 [prD p, .int a, .int b] st = some (mD (link p a b), st) := by
  have := e_link a b ha hb st k 6 p g.d g.v (by have := g.z; omega)
  rwa [show 6 + 4 + k = k + 10 by omega] at this
/-! ### 21 -/
def endsL (x y : Bool) : List D := (if x then [.str "ahead"] else []) ++ (if y then [.str "behind"] else [])
def endsD (x y : Bool) : D := .tup (endsL x y)
theorem bel_ends (x y : Bool) : D.bel 0 (endsD x y) = true := by cases x <;> cases y <;> rfl
theorem pl_ends (x y : Bool) : D.pl 60 (endsD x y) = true := by cases x <;> cases y <;> decide +kernel
theorem deq_ends (x y u v : Bool) : deq (endsD x y) (endsD u v) = some ((x == u) && (y == v)) := by
  rw [deq_pl (pl_ends _ _) (pl_ends _ _)]
  congr 1
  cases x <;> cases y <;> cases u <;> cases v <;> decide +kernel
theorem e_ends_raw {n : Nat} {a b : Int} (ha : Rn n a) (hb : Rn n b) (k : Nat) {p : Pr} (g : GP n p) (st : Sto) : evCall prg (k + 11) 21 [prD p, .int a, .int b] st = some (endsD (link p a b).a (link p a b).b, st) := by
  have e := e_link6 ha hb k g st
  have lim : ∀ x y, (endsL x y).length ≤ LIM := fun x y => by cases x <;> cases y <;> simp [endsL, LIM]
  have q : evE (cf (k + 10)) q21_0 [some (prD p), some (.int a), some (.int b), some (mD (link p a b)), none, none] st = some (.lst (endsL (link p a b).a (link p a b).b), st) := by
    refine evE_comp (st1 := st) (w := ⟨[.tup [.str "ahead", .bl (link p a b).a], .tup [.str "behind", .bl (link p a b).b]], fun _ => true⟩) ?_ ?_ (mkL_ok (lim _ _))
    · simp [sl, evSs, evS, evE, evEs, evI, evG, evGs, setAll, wipeD, isD_int, isD_bool, isD_str, isD_tup, kInt_non, kInt_bl, kInt_int, kInt_str, kInt_tup, kInt_lst, kBool_non, kBool_bl, kBool_int, kBool_str, kBool_tup, kBool_lst, kStr_non, kStr_bl, kStr_int, kStr_str, kStr_tup, kStr_lst, kTup_non, kTup_bl, kTup_int, kTup_str, kTup_tup, kTup_lst, atI_0, atI_1, atI_2, atI_3, cop, bop, b1D, b2D, ixD, seq_eq, seqX_tup, seqX_lst, seqX_scr, derL_eq, lstX_lst, der_loc, derLoc_lst, derLoc_dct, der_non, der_bl, der_int, der_str, der_tup, der_lst, der_scr, methD, mkL, D.isNon, D.isBl, oint, E.isSkip, slD, revD, dgetD, isLstS, truD, ints?, bls?, der_lotD, der_partD, der_thrD, der_mD, der_prD, seq_lotD, seq_partD, seq_thrD, mD]
    · cases h1 : (link p a b).a <;> cases h2 : (link p a b).b <;> simp [evC, sl, evSs, evS, evE, evEs, evI, evG, evGs, setAll, wipeD, isD_int, isD_bool, isD_str, isD_tup, kInt_non, kInt_bl, kInt_int, kInt_str, kInt_tup, kInt_lst, kBool_non, kBool_bl, kBool_int, kBool_str, kBool_tup, kBool_lst, kStr_non, kStr_bl, kStr_int, kStr_str, kStr_tup, kStr_lst, kTup_non, kTup_bl, kTup_int, kTup_str, kTup_tup, kTup_lst, atI_0, atI_1, atI_2, atI_3, cop, bop, b1D, b2D, ixD, seq_eq, seqX_tup, seqX_lst, seqX_scr, derL_eq, lstX_lst, der_loc, derLoc_lst, derLoc_dct, der_non, der_bl, der_int, der_str, der_tup, der_lst, der_scr, methD, mkL, D.isNon, D.isBl, oint, E.isSkip, slD, revD, dgetD, isLstS, truD, ints?, bls?, der_lotD, der_partD, der_thrD, der_mD, der_prD, seq_lotD, seq_partD, seq_thrD, endsL]
  refine call_ret0 (d := d21) rfl rfl (δ := [some (prD p), some (.int a), some (.int b), some (mD (link p a b)), none, none]) ?_ (bel_ends _ _)
  simp [d21, b21, sl, evSs, evS, evE, evEs, evI, evG, evGs, setAll, wipeD, isD_int, isD_bool, isD_str, isD_tup, kInt_non, kInt_bl, kInt_int, kInt_str, kInt_tup, kInt_lst, kBool_non, kBool_bl, kBool_int, kBool_str, kBool_tup, kBool_lst, kStr_non, kStr_bl, kStr_int, kStr_str, kStr_tup, kStr_lst, kTup_non, kTup_bl, kTup_int, kTup_str, kTup_tup, kTup_lst, atI_0, atI_1, atI_2, atI_3, cop, bop, b1D, b2D, ixD, seq_eq, seqX_tup, seqX_lst, seqX_scr, derL_eq, lstX_lst, der_loc, derLoc_lst, derLoc_dct, der_non, der_bl, der_int, der_str, der_tup, der_lst, der_scr, methD, mkL, D.isNon, D.isBl, oint, E.isSkip, slD, revD, dgetD, isLstS, truD, ints?, bls?, der_lotD, der_partD, der_thrD, der_mD, der_prD, seq_lotD, seq_partD, seq_thrD, e, q, endsD]
/-! ### 22 .. 25 -/
theorem e_need_program {n : Nat} (hn : n ≤ 8) (h1 : 1 ≤ n) (k : Nat) {p : Pr} (g : GP n p) (st : Sto) : evCall prg (k + 8) 22 [.int n, prD p] st = some (.non, st) := by
  have e1 := e_need_size (k + 3) (n : Int) st (by omega) (by omega)
  have e2 := e_parts hn h1 k p g.v g.d g.z st
  have hz : ¬ sz p = 0 := by have := sz_inner p; omega
  refine call_nx0 (d := d22) rfl rfl (δ := [some (.int n), some (prD p)]) ?_
  simp [d22, b22, sl, evSs, evS, evE, evEs, evI, evG, evGs, setAll, wipeD, isD_int, isD_bool, isD_str, isD_tup, kInt_non, kInt_bl, kInt_int, kInt_str, kInt_tup, kInt_lst, kBool_non, kBool_bl, kBool_int, kBool_str, kBool_tup, kBool_lst, kStr_non, kStr_bl, kStr_int, kStr_str, kStr_tup, kStr_lst, kTup_non, kTup_bl, kTup_int, kTup_str, kTup_tup, kTup_lst, atI_0, atI_1, atI_2, atI_3, cop, bop, b1D, b2D, ixD, seq_eq, seqX_tup, seqX_lst, seqX_scr, derL_eq, lstX_lst, der_loc, derLoc_lst, derLoc_dct, der_non, der_bl, der_int, der_str, der_tup, der_lst, der_scr, methD, mkL, D.isNon, D.isBl, oint, E.isSkip, slD, revD, dgetD, isLstS, truD, ints?, bls?, der_lotD, der_partD, der_thrD, der_mD, der_prD, seq_lotD, seq_partD, seq_thrD, e1, e2, deq_int, hz]
theorem e_ends {n : Nat} (hn : n ≤ 8) (h1 : 1 ≤ n) {a b : Int} (ha : Rn n a) (hb : Rn n b) (k : Nat) {p : Pr} (g : GP n p) (st : Sto) : evCall prg (k + 12) 23 [.int n, prD p, .int a, .int b] st = some (endsD (link p a b).a (link p a b).b, st) := by
  have e1 := e_need_program hn h1 (k + 3) g st
  have e2 := e_need_kind (k + 8) (n : Int) a st ha.1 ha.2
  have e3 := e_need_kind (k + 8) (n : Int) b st hb.1 hb.2
  have e4 := e_ends_raw ha hb k g st
  refine call_ret0 (d := d23) rfl rfl (δ := [some (.int n), some (prD p), some (.int a), some (.int b)]) ?_ (bel_ends _ _)
  simp [d23, b23, sl, evSs, evS, evE, evEs, evI, evG, evGs, setAll, wipeD, isD_int, isD_bool, isD_str, isD_tup, kInt_non, kInt_bl, kInt_int, kInt_str, kInt_tup, kInt_lst, kBool_non, kBool_bl, kBool_int, kBool_str, kBool_tup, kBool_lst, kStr_non, kStr_bl, kStr_int, kStr_str, kStr_tup, kStr_lst, kTup_non, kTup_bl, kTup_int, kTup_str, kTup_tup, kTup_lst, atI_0, atI_1, atI_2, atI_3, cop, bop, b1D, b2D, ixD, seq_eq, seqX_tup, seqX_lst, seqX_scr, derL_eq, lstX_lst, der_loc, derLoc_lst, derLoc_dct, der_non, der_bl, der_int, der_str, der_tup, der_lst, der_scr, methD, mkL, D.isNon, D.isBl, oint, E.isSkip, slD, revD, dgetD, isLstS, truD, ints?, bls?, der_lotD, der_partD, der_thrD, der_mD, der_prD, seq_lotD, seq_partD, seq_thrD, e1, e2, e3, e4]
theorem e_two_kinds {n : Nat} {a b : Int} (ha : Rn n a) (hb : Rn n b) (k : Nat) (st : Sto) : evCall prg (k + 4) 24 [.int n, lotD [a, b]] st = some (.bl true, st) := by
  have e := e_are_between k [a, b] 0 ((n : Int) - 1) st (by simp [LIM])
  have h1 : a ≤ (n : Int) - 1 := by have := ha.2; omega
  have h2 : b ≤ (n : Int) - 1 := by have := hb.2; omega
  simp only [List.all_cons, List.all_nil, ha.1, hb.1, h1, h2, decide_true, Bool.and_true] at e
  refine call_ret0 (d := d24) rfl rfl (δ := [some (.int n), some (lotD [a, b])]) ?_ rfl
  simp [d24, b24, sl, evSs, evS, evE, evEs, evI, evG, evGs, setAll, wipeD, isD_int, isD_bool, isD_str, isD_tup, kInt_non, kInt_bl, kInt_int, kInt_str, kInt_tup, kInt_lst, kBool_non, kBool_bl, kBool_int, kBool_str, kBool_tup, kBool_lst, kStr_non, kStr_bl, kStr_int, kStr_str, kStr_tup, kStr_lst, kTup_non, kTup_bl, kTup_int, kTup_str, kTup_tup, kTup_lst, atI_0, atI_1, atI_2, atI_3, cop, bop, b1D, b2D, ixD, seq_eq, seqX_tup, seqX_lst, seqX_scr, derL_eq, lstX_lst, der_loc, derLoc_lst, derLoc_dct, der_non, der_bl, der_int, der_str, der_tup, der_lst, der_scr, methD, mkL, D.isNon, D.isBl, oint, E.isSkip, slD, revD, dgetD, isLstS, truD, ints?, bls?, der_lotD, der_partD, der_thrD, der_mD, der_prD, seq_lotD, seq_partD, seq_thrD, e, deq_int]
theorem e_need_two {n : Nat} (hn : n ≤ 8) (h1 : 1 ≤ n) (k : Nat) {p q : Pr} (gp : GP n p) (gq : GP n q) (st : Sto) : evCall prg (k + 9) 25 [.int n, prD p, prD q] st = some (.non, st) := by
  have e1 := e_need_program hn h1 k gp st
  have e2 := e_need_program hn h1 k gq st
  refine call_nx0 (d := d25) rfl rfl (δ := [some (.int n), some (prD p), some (prD q)]) ?_
  simp [d25, b25, sl, evSs, evS, evE, evEs, evI, evG, evGs, setAll, wipeD, isD_int, isD_bool, isD_str, isD_tup, kInt_non, kInt_bl, kInt_int, kInt_str, kInt_tup, kInt_lst, kBool_non, kBool_bl, kBool_int, kBool_str, kBool_tup, kBool_lst, kStr_non, kStr_bl, kStr_int, kStr_str, kStr_tup, kStr_lst, kTup_non, kTup_bl, kTup_int, kTup_str, kTup_tup, kTup_lst, atI_0, atI_1, atI_2, atI_3, cop, bop, b1D, b2D, ixD, seq_eq, seqX_tup, seqX_lst, seqX_scr, derL_eq, lstX_lst, der_loc, derLoc_lst, derLoc_dct, der_non, der_bl, der_int, der_str, der_tup, der_lst, der_scr, methD, mkL, D.isNon, D.isBl, oint, E.isSkip, slD, revD, dgetD, isLstS, truD, ints?, bls?, der_lotD, der_partD, der_thrD, der_mD, der_prD, seq_lotD, seq_partD, seq_thrD, e1, e2]
/-! ### 26 -/
def diffB (p q : Pr) (x : Int × Int) : Bool := !(((link p x.1 x.2).a == (link q x.1 x.2).a) && ((link p x.1 x.2).b == (link q x.1 x.2).b))
theorem diffB_comm (p q : Pr) : diffB p q = diffB q p := by
  funext x
  unfold diffB
  rw [Bool.beq_comm, Bool.beq_comm (a := (link p x.1 x.2).b)]
def unD (x : Int × Int) : D := .tup [.str "unlike", .int x.1, .int x.2]
def alD : D := .tup [.str "alike"]
theorem f26a {n : Nat} (k : Nat) {p q : Pr} (gp : GP n p) (gq : GP n q) (ok : Sto → Bool) (hok : ∀ s, ok s = true) (st : Sto) (a : Int) (ha : Rn n a) (s : Option D) : ∀ (bs : List Int) (z : Option D), (∀ b ∈ bs, Rn n b) →
    (match bs.find? (fun b => diffB p q (a, b)) with
    | none => ∃ z', evFor (evG (.name 4)) (evSs (cf (k + 11)) l26_0) ok (bs.map D.int) [s, some (prD p), some (prD q), some (.int a), z] st = some (.nx, [s, some (prD p), some (prD q), some (.int a), z'], st)
    | some b => ∃ δ', evFor (evG (.name 4)) (evSs (cf (k + 11)) l26_0) ok (bs.map D.int) [s, some (prD p), some (prD q), some (.int a), z] st = some (.rt (unD (a, b)), δ', st))
  | [], z, _ => ⟨z, by simp [evFor, hok]⟩
  | b :: bs, z, h => by
    have hb := h b List.mem_cons_self
    have e1 := e_ends_raw ha hb k gp st
    have e2 := e_ends_raw ha hb k gq st
    have dq := deq_ends (link p a b).a (link p a b).b (link q a b).a (link q a b).b
    have ih := f26a k gp gq ok hok st a ha s bs (some (.int b)) fun x hx => h x (List.mem_cons_of_mem _ hx)
    have dr : ∀ x y, der st (endsD x y) = endsD x y := fun _ _ => rfl
    by_cases hd : diffB p q (a, b) = true
    · rw [List.find?_cons_of_pos (p := fun b => diffB p q (a, b)) hd]
      refine ⟨[s, some (prD p), some (prD q), some (.int a), some (.int b)], ?_⟩
      rw [List.map_cons]
      refine evFor_ret (hok _) (δ1 := [s, some (prD p), some (prD q), some (.int a), some (.int b)]) (by simp [evG]) ?_
      have hd2 : (((link p a b).a == (link q a b).a) && ((link p a b).b == (link q a b).b)) = false := by
        simpa only [diffB, Bool.not_eq_true'] using hd
      rw [hd2] at dq
      simp [l26_0, sl, evSs, evS, evE, evEs, evI, evG, evGs, setAll, wipeD, isD_int, isD_bool, isD_str, isD_tup, kInt_non, kInt_bl, kInt_int, kInt_str, kInt_tup, kInt_lst, kBool_non, kBool_bl, kBool_int, kBool_str, kBool_tup, kBool_lst, kStr_non, kStr_bl, kStr_int, kStr_str, kStr_tup, kStr_lst, kTup_non, kTup_bl, kTup_int, kTup_str, kTup_tup, kTup_lst, atI_0, atI_1, atI_2, atI_3, cop, bop, b1D, b2D, ixD, seq_eq, seqX_tup, seqX_lst, seqX_scr, derL_eq, lstX_lst, der_loc, derLoc_lst, derLoc_dct, der_non, der_bl, der_int, der_str, der_tup, der_lst, der_scr, methD, mkL, D.isNon, D.isBl, oint, E.isSkip, slD, revD, dgetD, isLstS, truD, ints?, bls?, der_lotD, der_partD, der_thrD, der_mD, der_prD, seq_lotD, seq_partD, seq_thrD, e1, e2, dr, dq, unD]
    · rw [List.find?_cons_of_neg (p := fun b => diffB p q (a, b)) hd]
      have hd2 : (((link p a b).a == (link q a b).a) && ((link p a b).b == (link q a b).b)) = true := by
        unfold diffB at hd
        simpa using hd
      rw [hd2] at dq
      have step : evFor (evG (.name 4)) (evSs (cf (k + 11)) l26_0) ok ((b :: bs).map D.int) [s, some (prD p), some (prD q), some (.int a), z] st = evFor (evG (.name 4)) (evSs (cf (k + 11)) l26_0) ok (bs.map D.int) [s, some (prD p), some (prD q), some (.int a), some (.int b)] st := by
        rw [List.map_cons]
        exact evFor_cons (hok _) (δ1 := [s, some (prD p), some (prD q), some (.int a), some (.int b)]) (by simp [evG]) (by simp [l26_0, sl, evSs, evS, evE, evEs, evI, evG, evGs, setAll, wipeD, isD_int, isD_bool, isD_str, isD_tup, kInt_non, kInt_bl, kInt_int, kInt_str, kInt_tup, kInt_lst, kBool_non, kBool_bl, kBool_int, kBool_str, kBool_tup, kBool_lst, kStr_non, kStr_bl, kStr_int, kStr_str, kStr_tup, kStr_lst, kTup_non, kTup_bl, kTup_int, kTup_str, kTup_tup, kTup_lst, atI_0, atI_1, atI_2, atI_3, cop, bop, b1D, b2D, ixD, seq_eq, seqX_tup, seqX_lst, seqX_scr, derL_eq, lstX_lst, der_loc, derLoc_lst, derLoc_dct, der_non, der_bl, der_int, der_str, der_tup, der_lst, der_scr, methD, mkL, D.isNon, D.isBl, oint, E.isSkip, slD, revD, dgetD, isLstS, truD, ints?, bls?, der_lotD, der_partD, der_thrD, der_mD, der_prD, seq_lotD, seq_partD, seq_thrD, e1, e2, dr, dq])
      rw [step]
      exact ih
def rowF (n : Nat) (p q : Pr) (a : Int) : Option (Int × Int) := ((rgI n).find? fun b => diffB p q (a, b)).map fun b => (a, b)
def judgeF (n : Nat) (p q : Pr) : Option (Int × Int) := (rgI n).findSome? (rowF n p q)
def judgeD (n : Nat) (p q : Pr) : D := match judgeF n p q with
  | none => alD
  | some x => unD x
theorem rgI_mem {n : Nat} {a : Int} : a ∈ rgI n ↔ Rn n a := by
  unfold rgI
  constructor
  · intro h
    obtain ⟨i, hi, rfl⟩ := List.mem_map.mp h
    have := List.mem_range.mp hi
    exact ⟨by omega, by omega⟩
  · rintro ⟨h1, h2⟩
    exact List.mem_map.mpr ⟨a.toNat, List.mem_range.mpr (by omega), by omega⟩
theorem i_rng (k n : Nat) (i : Nat) (hn : n ≤ 8) (δ : Ev.Env) (st : Sto) (h : δ[i]? = some (some (.int (n : Int)))) : evI (cf k) (.rng1 (.var i)) δ st = some (⟨(rgI n).map D.int, fun _ => true⟩, st) := by
  have h1 : (n : Int) ≤ (LIM : Int) ∧ -(LIM : Int) ≤ n := by unfold LIM; omega
  have h2 : rngD n = (rgI n).map D.int := by simp [rngD, rgI]
  simp [sl, evSs, evS, evE, evEs, evI, evG, evGs, setAll, wipeD, isD_int, isD_bool, isD_str, isD_tup, kInt_non, kInt_bl, kInt_int, kInt_str, kInt_tup, kInt_lst, kBool_non, kBool_bl, kBool_int, kBool_str, kBool_tup, kBool_lst, kStr_non, kStr_bl, kStr_int, kStr_str, kStr_tup, kStr_lst, kTup_non, kTup_bl, kTup_int, kTup_str, kTup_tup, kTup_lst, atI_0, atI_1, atI_2, atI_3, cop, bop, b1D, b2D, ixD, seq_eq, seqX_tup, seqX_lst, seqX_scr, derL_eq, lstX_lst, der_loc, derLoc_lst, derLoc_dct, der_non, der_bl, der_int, der_str, der_tup, der_lst, der_scr, methD, mkL, D.isNon, D.isBl, oint, E.isSkip, slD, revD, dgetD, isLstS, truD, ints?, bls?, der_lotD, der_partD, der_thrD, der_mD, der_prD, seq_lotD, seq_partD, seq_thrD, h, h1, h2]
theorem f26b {n : Nat} (hn : n ≤ 8) (k : Nat) {p q : Pr} (gp : GP n p) (gq : GP n q) (st : Sto) : ∀ (as : List Int) (y z : Option D), (∀ a ∈ as, Rn n a) →
    (match as.findSome? (rowF n p q) with
    | none => ∃ y' z', evFor (evG (.name 3)) (evSs (cf (k + 11)) l26_1) (fun _ => true) (as.map D.int) [some (.int n), some (prD p), some (prD q), y, z] st = some (.nx, [some (.int n), some (prD p), some (prD q), y', z'], st)
    | some x => ∃ δ', evFor (evG (.name 3)) (evSs (cf (k + 11)) l26_1) (fun _ => true) (as.map D.int) [some (.int n), some (prD p), some (prD q), y, z] st = some (.rt (unD x), δ', st))
  | [], y, z, _ => ⟨y, z, by simp [evFor]⟩
  | a :: as, y, z, h => by
    have ha := h a List.mem_cons_self
    have f := f26a k gp gq (fun _ => true) (fun _ => rfl) st a ha (some (.int n)) (rgI n) z fun b hb => rgI_mem.mp hb
    have hi := i_rng (k + 11) n 0 hn [some (.int n), some (prD p), some (prD q), some (.int a), z] st rfl
    rw [List.findSome?_cons]
    unfold rowF
    cases hf : (rgI n).find? (fun b => diffB p q (a, b)) with
    | some b =>
      rw [hf] at f
      obtain ⟨δ', f⟩ := f
      have g : evS (cf (k + 11)) f26_0 [some (.int n), some (prD p), some (prD q), some (.int a), z] st = some (.rt (unD (a, b)), δ', st) := evS_for hi f
      refine ⟨δ', ?_⟩
      rw [List.map_cons]
      exact evFor_ret rfl (δ1 := [some (.int n), some (prD p), some (prD q), some (.int a), z]) (by simp [evG]) (by simp [l26_1, evSs, g])
    | none =>
      rw [hf] at f
      obtain ⟨z', f⟩ := f
      have g : evS (cf (k + 11)) f26_0 [some (.int n), some (prD p), some (prD q), some (.int a), z] st = some (.nx, [some (.int n), some (prD p), some (prD q), some (.int a), z'], st) := evS_for hi f
      have ih := f26b hn k gp gq st as (some (.int a)) z' fun x hx => h x (List.mem_cons_of_mem _ hx)
      have step : evFor (evG (.name 3)) (evSs (cf (k + 11)) l26_1) (fun _ => true) ((a :: as).map D.int) [some (.int n), some (prD p), some (prD q), y, z] st = evFor (evG (.name 3)) (evSs (cf (k + 11)) l26_1) (fun _ => true) (as.map D.int) [some (.int n), some (prD p), some (prD q), some (.int a), z'] st := by
        rw [List.map_cons]
        exact evFor_cons rfl (δ1 := [some (.int n), some (prD p), some (prD q), some (.int a), z]) (by simp [evG]) (by simp [l26_1, evSs, g])
      rw [step]
      exact ih
theorem e_judge {n : Nat} (hn : n ≤ 8) (h1 : 1 ≤ n) (k : Nat) {p q : Pr} (gp : GP n p) (gq : GP n q) (st : Sto) : evCall prg (k + 12) 26 [.int n, prD p, prD q] st = some (judgeD n p q, st) := by
  have e1 := e_need_two hn h1 (k + 2) gp gq st
  have f := f26b hn k gp gq st (rgI n) none none fun a ha => rgI_mem.mp ha
  have hi := i_rng (k + 11) n 0 hn [some (.int n), some (prD p), some (prD q), none, none] st rfl
  unfold judgeD judgeF
  cases hf : (rgI n).findSome? (rowF n p q) with
  | some x =>
    rw [hf] at f
    obtain ⟨δ', f⟩ := f
    have g : evS (cf (k + 11)) f26_1 [some (.int n), some (prD p), some (prD q), none, none] st = some (.rt (unD x), δ', st) := evS_for hi f
    exact call_ret0 (d := d26) rfl rfl (δ := δ') (by simp [d26, b26, sl, evSs, evS, evE, evEs, evI, evG, evGs, setAll, wipeD, isD_int, isD_bool, isD_str, isD_tup, kInt_non, kInt_bl, kInt_int, kInt_str, kInt_tup, kInt_lst, kBool_non, kBool_bl, kBool_int, kBool_str, kBool_tup, kBool_lst, kStr_non, kStr_bl, kStr_int, kStr_str, kStr_tup, kStr_lst, kTup_non, kTup_bl, kTup_int, kTup_str, kTup_tup, kTup_lst, atI_0, atI_1, atI_2, atI_3, cop, bop, b1D, b2D, ixD, seq_eq, seqX_tup, seqX_lst, seqX_scr, derL_eq, lstX_lst, der_loc, derLoc_lst, derLoc_dct, der_non, der_bl, der_int, der_str, der_tup, der_lst, der_scr, methD, mkL, D.isNon, D.isBl, oint, E.isSkip, slD, revD, dgetD, isLstS, truD, ints?, bls?, der_lotD, der_partD, der_thrD, der_mD, der_prD, seq_lotD, seq_partD, seq_thrD, e1, g]) rfl
  | none =>
    rw [hf] at f
    obtain ⟨y', z', f⟩ := f
    have g : evS (cf (k + 11)) f26_1 [some (.int n), some (prD p), some (prD q), none, none] st = some (.nx, [some (.int n), some (prD p), some (prD q), y', z'], st) := evS_for hi f
    exact call_ret0 (d := d26) rfl rfl (δ := [some (.int n), some (prD p), some (prD q), y', z']) (by simp [d26, b26, sl, evSs, evS, evE, evEs, evI, evG, evGs, setAll, wipeD, isD_int, isD_bool, isD_str, isD_tup, kInt_non, kInt_bl, kInt_int, kInt_str, kInt_tup, kInt_lst, kBool_non, kBool_bl, kBool_int, kBool_str, kBool_tup, kBool_lst, kStr_non, kStr_bl, kStr_int, kStr_str, kStr_tup, kStr_lst, kTup_non, kTup_bl, kTup_int, kTup_str, kTup_tup, kTup_lst, atI_0, atI_1, atI_2, atI_3, cop, bop, b1D, b2D, ixD, seq_eq, seqX_tup, seqX_lst, seqX_scr, derL_eq, lstX_lst, der_loc, derLoc_lst, derLoc_dct, der_non, der_bl, der_int, der_str, der_tup, der_lst, der_scr, methD, mkL, D.isNon, D.isBl, oint, E.isSkip, slD, revD, dgetD, isLstS, truD, ints?, bls?, der_lotD, der_partD, der_thrD, der_mD, der_prD, seq_lotD, seq_partD, seq_thrD, e1, g, alD]) rfl
/-! ### 27 -/
theorem pl_alD : D.pl 60 alD = true := by decide +kernel
theorem pl_unD (x : Int × Int) : D.pl 60 (unD x) = true := by
  show (PyData.strOk "unlike" && (true && (true && true))) = true
  rw [ok_unlike] <;> rfl
theorem s_unlike_alike : (("unlike" : PySem.Str) = "alike") = False := eq_false (by decide +kernel)
theorem s_alike_unlike : (("alike" : PySem.Str) = "unlike") = False := eq_false (by decide +kernel)
theorem deq_al_al : deq alD alD = some true := by
  rw [deq_pl pl_alD pl_alD, same_refl]
theorem deq_un_al (x : Int × Int) : deq (unD x) alD = some false := by
  rw [deq_pl (pl_unD x) pl_alD]
  rfl
theorem e_holds_al {n : Nat} (hn : n ≤ 8) (h1 : 1 ≤ n) (k : Nat) {p q : Pr} (gp : GP n p) (gq : GP n q) (st : Sto) : evCall prg (k + 13) 27 [.int n, prD p, prD q, alD] st = some (.bl (judgeF n p q).isNone, st) := by
  have e1 := e_need_two hn h1 (k + 3) gp gq st
  have e2 := e_judge hn h1 k gp gq st
  have e3 := e_word (k + 11) "alike" "alike" [] st ok_alike ok_alike
  have dq : deq (judgeD n p q) alD = some (judgeF n p q).isNone := by
    unfold judgeD
    cases judgeF n p q with
    | none => exact deq_al_al
    | some x => exact deq_un_al x
  have dj : der st (judgeD n p q) = judgeD n p q := by
    unfold judgeD
    cases judgeF n p q <;> rfl
  refine call_ret0 (d := d27) rfl rfl (δ := [some (.int n), some (prD p), some (prD q), some alD]) ?_ rfl
  unfold alD at dq ⊢
  simp [d27, b27, sl, evSs, evS, evE, evEs, evI, evG, evGs, setAll, wipeD, isD_int, isD_bool, isD_str, isD_tup, kInt_non, kInt_bl, kInt_int, kInt_str, kInt_tup, kInt_lst, kBool_non, kBool_bl, kBool_int, kBool_str, kBool_tup, kBool_lst, kStr_non, kStr_bl, kStr_int, kStr_str, kStr_tup, kStr_lst, kTup_non, kTup_bl, kTup_int, kTup_str, kTup_tup, kTup_lst, atI_0, atI_1, atI_2, atI_3, cop, bop, b1D, b2D, ixD, seq_eq, seqX_tup, seqX_lst, seqX_scr, derL_eq, lstX_lst, der_loc, derLoc_lst, derLoc_dct, der_non, der_bl, der_int, der_str, der_tup, der_lst, der_scr, methD, mkL, D.isNon, D.isBl, oint, E.isSkip, slD, revD, dgetD, isLstS, truD, ints?, bls?, der_lotD, der_partD, der_thrD, der_mD, der_prD, seq_lotD, seq_partD, seq_thrD, e1, e2, e3, deq_int, dj, dq]
theorem e_holds_un {n : Nat} (hn : n ≤ 8) (h1 : 1 ≤ n) (k : Nat) {p q : Pr} (gp : GP n p) (gq : GP n q) {a b : Int} (ha : Rn n a) (hb : Rn n b) (st : Sto) : evCall prg (k + 12) 27 [.int n, prD p, prD q, unD (a, b)] st = some (.bl (diffB p q (a, b)), st) := by
  have e1 := e_need_two hn h1 (k + 2) gp gq st
  have e3 := e_word (k + 10) "unlike" "alike" [.int a, .int b] st ok_unlike ok_alike
  have e4 := e_word (k + 10) "unlike" "unlike" [.int a, .int b] st ok_unlike ok_unlike
  have e5 := e_two_kinds ha hb (k + 7) st
  have e6 := e_ends_raw ha hb k gp st
  have e7 := e_ends_raw ha hb k gq st
  have dq := deq_ends (link p a b).a (link p a b).b (link q a b).a (link q a b).b
  have dr : ∀ x y, der st (endsD x y) = endsD x y := fun _ _ => rfl
  refine call_ret0 (d := d27) rfl rfl (δ := [some (.int n), some (prD p), some (prD q), some (unD (a, b))]) ?_ rfl
  have e5 : evCall prg (k + 11) 24 [.int n, .tup [.int a, .int b]] st = some (.bl true, st) := e5
  unfold diffB unD
  simp [d27, b27, sl, evSs, evS, evE, evEs, evI, evG, evGs, setAll, wipeD, isD_int, isD_bool, isD_str, isD_tup, kInt_non, kInt_bl, kInt_int, kInt_str, kInt_tup, kInt_lst, kBool_non, kBool_bl, kBool_int, kBool_str, kBool_tup, kBool_lst, kStr_non, kStr_bl, kStr_int, kStr_str, kStr_tup, kStr_lst, kTup_non, kTup_bl, kTup_int, kTup_str, kTup_tup, kTup_lst, atI_0, atI_1, atI_2, atI_3, cop, bop, b1D, b2D, ixD, seq_eq, seqX_tup, seqX_lst, seqX_scr, derL_eq, lstX_lst, der_loc, derLoc_lst, derLoc_dct, der_non, der_bl, der_int, der_str, der_tup, der_lst, der_scr, methD, mkL, D.isNon, D.isBl, oint, E.isSkip, slD, revD, dgetD, isLstS, truD, ints?, bls?, der_lotD, der_partD, der_thrD, der_mD, der_prD, seq_lotD, seq_partD, seq_thrD, e1, e3, e4, e5, cut_1, s_unlike_alike, e6, e7, dr, dq]
end K82
set_option Elab.async false
set_option linter.all false
set_option maxRecDepth 100000
set_option maxHeartbeats 4000000
namespace K82
open PySem Ev
/-! ### 39, 41, 42 -/
def mask (u v : Bool) : Int := (if u then 1 else 0) + (if v then 2 else 0)
def fallD (m : Mx) : D := .tup [.int (mask m.a m.b), .int (mask m.c m.d)]
theorem evE_iteT {C : Cfg} {c a b : E} {δ : Ev.Env} {st : Sto} {d x y : D} {u : Bool} (hc : evE C c δ st = some (d, st)) (ht : truD st d = some u) (ha : evE C a δ st = some (x, st)) (hb : evE C b δ st = some (y, st)) : evE C (.iteT c a b) δ st = some (if u then x else y, st) := by
  cases u <;> simp [evE, hc, ht, ha, hb]
theorem and1 (u v : Bool) : Builtin.bitAnd (mask u v) 1 = if u then 1 else 0 := by revert u v; decide +kernel
theorem and2 (u v : Bool) : Builtin.bitAnd (mask u v) 2 = if v then 2 else 0 := by revert u v; decide +kernel
theorem or_mask (u v a b : Bool) : Builtin.bitOr (mask u v) (mask a b) = mask (u || a) (v || b) := by revert u v a b; decide +kernel
theorem or_sel (u v a b c d : Bool) : Builtin.bitOr (if u then mask a b else 0) (if v then mask c d else 0) = mask (u && a || (v && c)) (u && b || (v && d)) := by revert u v a b c d; decide +kernel
theorem if_int (u : Bool) (x y : Int) : (if u then D.int x else D.int y) = D.int (if u then x else y) := by cases u <;> rfl
theorem e_more (k : Nat) (δ : Ev.Env) (st : Sto) (u v : Bool) (m : Mx) (h6 : δ[6]? = some (some (.int (mask u v)))) (h12 : δ[12]? = some (some (.int (mask m.a m.b)))) (h13 : δ[13]? = some (some (.int (mask m.c m.d)))) :
    evE (cf k) (.bin .bor (.iteT (.bin .band (.var 6) (.int 1)) (.var 12) (.int 0)) (.iteT (.bin .band (.var 6) (.int 2)) (.var 13) (.int 0))) δ st = some (.int (mask (u && m.a || (v && m.c)) (u && m.b || (v && m.d))), st) := by
  have e1 : evE (cf k) (.iteT (.bin .band (.var 6) (.int 1)) (.var 12) (.int 0)) δ st = some (.int (if u then mask m.a m.b else 0), st) := by
    rw [← if_int]
    exact evE_iteT (d := .int (if u then 1 else 0)) (by simp [evE, h6, bop, and1]) (by cases u <;> rfl) (by simp [evE, h12]) (by simp [evE])
  have e2 : evE (cf k) (.iteT (.bin .band (.var 6) (.int 2)) (.var 13) (.int 0)) δ st = some (.int (if v then mask m.c m.d else 0), st) := by
    rw [← if_int]
    exact evE_iteT (d := .int (if v then 2 else 0)) (by simp [evE, h6, bop, and2]) (by cases v <;> rfl) (by simp [evE, h13]) (by simp [evE])
  rw [evE, e1]
  simp only [Option.bind_some]
  rw [e2]
  simp [bop, or_sel]
def vth (x : Bool × Bool) (m : Mx) : Bool × Bool := (x.1 && m.a || (x.2 && m.c), x.1 && m.b || (x.2 && m.d))
def vof (x : Bool × Bool) (m : Mx) : Bool × Bool := (x.1 || (vth x m).1, x.2 || (vth x m).2)
theorem row_row (k : Nat) (ok : Sto → Bool) (hok : ∀ s, ok s = true) (st : Sto) (e0 e1 e2 e4 e5 e7 e8 e9 e10 e11 : Option D) : ∀ (ms : List Mx) (x : Bool × Bool) (a b c : Option D), ∃ a' b' c', evFor (evG (.tup [.name 12, .name 13])) (evSs (cf k) l41_0) ok (ms.map fallD) [e0, e1, e2, some (.str "row"), e4, e5, some (.int (mask x.1 x.2)), e7, e8, e9, e10, e11, a, b, c] st =
    some (.nx, [e0, e1, e2, some (.str "row"), e4, e5, some (.int (mask (ms.foldl vth x).1 (ms.foldl vth x).2)), e7, e8, e9, e10, e11, a', b', c'], st)
  | [], x, a, b, c => ⟨a, b, c, by simp [evFor, hok]⟩
  | m :: ms, x, a, b, c => by
    have d1 := deq_str "row" "row" ok_row ok_row
    obtain ⟨a', b', c', ih⟩ := row_row k ok hok st e0 e1 e2 e4 e5 e7 e8 e9 e10 e11 ms (vth x m) (some (.int (mask m.a m.b))) (some (.int (mask m.c m.d))) (some (.int (mask (vth x m).1 (vth x m).2)))
    have em := e_more k [e0, e1, e2, some (.str "row"), e4, e5, some (.int (mask x.1 x.2)), e7, e8, e9, e10, e11, some (.int (mask m.a m.b)), some (.int (mask m.c m.d)), c] st x.1 x.2 m rfl rfl rfl
    refine ⟨a', b', c', ?_⟩
    rw [List.map_cons, evFor_cons (hok _) (δ1 := [e0, e1, e2, some (.str "row"), e4, e5, some (.int (mask x.1 x.2)), e7, e8, e9, e10, e11, some (.int (mask m.a m.b)), some (.int (mask m.c m.d)), c]) (δ2 := [e0, e1, e2, some (.str "row"), e4, e5, some (.int (mask (vth x m).1 (vth x m).2)), e7, e8, e9, e10, e11, some (.int (mask m.a m.b)), some (.int (mask m.c m.d)), some (.int (mask (vth x m).1 (vth x m).2))]) (st2 := st) (by simp [evG, evGs, fallD]) ?_, ih]
    · rfl
    · simp only [l41_0, evSs, evS, em, Option.map_some, Option.bind_some]
      simp [evE, cop, der_str, d1, vth]
theorem row_often (k : Nat) (ok : Sto → Bool) (hok : ∀ s, ok s = true) (st : Sto) (e0 e1 e2 e4 e5 e7 e8 e9 e10 e11 : Option D) : ∀ (ms : List Mx) (x : Bool × Bool) (a b c : Option D), ∃ a' b' c', evFor (evG (.tup [.name 12, .name 13])) (evSs (cf k) l41_0) ok (ms.map fallD) [e0, e1, e2, some (.str "often"), e4, e5, some (.int (mask x.1 x.2)), e7, e8, e9, e10, e11, a, b, c] st =
    some (.nx, [e0, e1, e2, some (.str "often"), e4, e5, some (.int (mask (ms.foldl vof x).1 (ms.foldl vof x).2)), e7, e8, e9, e10, e11, a', b', c'], st)
  | [], x, a, b, c => ⟨a, b, c, by simp [evFor, hok]⟩
  | m :: ms, x, a, b, c => by
    have d1 := deq_str "often" "row" ok_often ok_row
    obtain ⟨a', b', c', ih⟩ := row_often k ok hok st e0 e1 e2 e4 e5 e7 e8 e9 e10 e11 ms (vof x m) (some (.int (mask m.a m.b))) (some (.int (mask m.c m.d))) (some (.int (mask (vth x m).1 (vth x m).2)))
    have em := e_more k [e0, e1, e2, some (.str "often"), e4, e5, some (.int (mask x.1 x.2)), e7, e8, e9, e10, e11, some (.int (mask m.a m.b)), some (.int (mask m.c m.d)), c] st x.1 x.2 m rfl rfl rfl
    refine ⟨a', b', c', ?_⟩
    rw [List.map_cons, evFor_cons (hok _) (δ1 := [e0, e1, e2, some (.str "often"), e4, e5, some (.int (mask x.1 x.2)), e7, e8, e9, e10, e11, some (.int (mask m.a m.b)), some (.int (mask m.c m.d)), c]) (δ2 := [e0, e1, e2, some (.str "often"), e4, e5, some (.int (mask (vof x m).1 (vof x m).2)), e7, e8, e9, e10, e11, some (.int (mask m.a m.b)), some (.int (mask m.c m.d)), some (.int (mask (vth x m).1 (vth x m).2))]) (st2 := st) (by simp [evG, evGs, fallD]) ?_, ih]
    · rfl
    · simp only [l41_0, evSs, evS, em, Option.map_some, Option.bind_some]
      simp [evE, cop, bop, der_str, d1, vth, vof, s_often_row, or_mask]
theorem choice_or (k : Nat) (ok : Sto → Bool) (hok : ∀ s, ok s = true) (st : Sto) (e0 e1 e2 e3 e4 e5 e6 e7 e8 e9 e14 : Option D) : ∀ (ms : List Mx) (x : Mx) (a b : Option D), ∃ a' b', evFor (evG (.tup [.name 12, .name 13])) (evSs (cf k) l41_2) ok (ms.map fallD) [e0, e1, e2, e3, e4, e5, e6, e7, e8, e9, some (.int (mask x.a x.b)), some (.int (mask x.c x.d)), a, b, e14] st =
    some (.nx, [e0, e1, e2, e3, e4, e5, e6, e7, e8, e9, some (.int (mask (ms.foldl Mx.or x).a (ms.foldl Mx.or x).b)), some (.int (mask (ms.foldl Mx.or x).c (ms.foldl Mx.or x).d)), a', b', e14], st)
  | [], x, a, b => ⟨a, b, by simp [evFor, hok]⟩
  | m :: ms, x, a, b => by
    obtain ⟨a', b', ih⟩ := choice_or k ok hok st e0 e1 e2 e3 e4 e5 e6 e7 e8 e9 e14 ms (x.or m) (some (.int (mask m.a m.b))) (some (.int (mask m.c m.d)))
    refine ⟨a', b', ?_⟩
    rw [List.map_cons, evFor_cons (hok _) (δ1 := [e0, e1, e2, e3, e4, e5, e6, e7, e8, e9, some (.int (mask x.a x.b)), some (.int (mask x.c x.d)), some (.int (mask m.a m.b)), some (.int (mask m.c m.d)), e14]) (δ2 := [e0, e1, e2, e3, e4, e5, e6, e7, e8, e9, some (.int (mask (x.or m).a (x.or m).b)), some (.int (mask (x.or m).c (x.or m).d)), some (.int (mask m.a m.b)), some (.int (mask m.c m.d)), e14]) (st2 := st) (by simp [evG, evGs, fallD]) ?_, ih]
    · rfl
    · simp [l41_2, sl, evSs, evS, evE, evEs, evI, evG, evGs, setAll, wipeD, isD_int, isD_bool, isD_str, isD_tup, kInt_non, kInt_bl, kInt_int, kInt_str, kInt_tup, kInt_lst, kBool_non, kBool_bl, kBool_int, kBool_str, kBool_tup, kBool_lst, kStr_non, kStr_bl, kStr_int, kStr_str, kStr_tup, kStr_lst, kTup_non, kTup_bl, kTup_int, kTup_str, kTup_tup, kTup_lst, atI_0, atI_1, atI_2, atI_3, cop, bop, b1D, b2D, ixD, seq_eq, seqX_tup, seqX_lst, seqX_scr, derL_eq, lstX_lst, der_loc, derLoc_lst, derLoc_dct, der_non, der_bl, der_int, der_str, der_tup, der_lst, der_scr, methD, mkL, D.isNon, D.isBl, oint, E.isSkip, slD, revD, dgetD, isLstS, truD, ints?, bls?, der_lotD, der_partD, der_thrD, der_mD, der_prD, seq_lotD, seq_partD, seq_thrD, or_mask, Mx.or]
end K82
set_option Elab.async false
set_option linter.all false
set_option maxRecDepth 100000
set_option maxHeartbeats 4000000
namespace K82
open PySem Ev
theorem vth_thn (x : Bool × Bool) (m y : Mx) : vth (vth x m) y = vth x (m.thn y) := by
  obtain ⟨u, v⟩ := x; obtain ⟨a, b, c, d⟩ := m; obtain ⟨e, f, g, h⟩ := y
  simp only [vth, Mx.thn, Prod.mk.injEq]
  revert u v a b c d e f g h
  decide +kernel
theorem vth_fold (x : Bool × Bool) : ∀ (ms : List Mx) (m : Mx), ms.foldl vth (vth x m) = vth x (ms.foldl Mx.thn m)
  | [], m => rfl
  | y :: ms, m => by rw [List.foldl_cons, List.foldl_cons, vth_thn, vth_fold x ms]
theorem vth_same (x : Bool × Bool) : vth x mSame = x := by obtain ⟨u, v⟩ := x; cases u <;> cases v <;> rfl
theorem vth_tf (m : Mx) : vth (true, false) m = (m.a, m.b) := by simp [vth]
theorem vth_ft (m : Mx) : vth (false, true) m = (m.c, m.d) := by simp [vth]
theorem vof_tf (m : Mx) : [m, m].foldl vof (true, false) = (m.oft.a, m.oft.b) := by
  obtain ⟨a, b, c, d⟩ := m
  simp only [List.foldl_cons, List.foldl_nil, vof, vth, Mx.oft, Mx.thn, Mx.or, mSame, Prod.mk.injEq]
  revert a b c d
  decide +kernel
theorem vof_ft (m : Mx) : [m, m].foldl vof (false, true) = (m.oft.c, m.oft.d) := by
  obtain ⟨a, b, c, d⟩ := m
  simp only [List.foldl_cons, List.foldl_nil, vof, vth, Mx.oft, Mx.thn, Mx.or, mSame, Prod.mk.injEq]
  revert a b c d
  decide +kernel
theorem bel_fall (m : Mx) : D.bel 0 (fallD m) = true := rfl
/-! ### the throws -/
theorem getD_z (n : Nat) : (some n : Option Nat).getD 0 = n := rfl
theorem way_cons {p : List Int × Int} {t : Thr} {a b : Int} (ha : a ∉ p.1) (hb : b ∉ p.1) {i j : Nat} (hi : idx a t = some i) (hj : idx b t = some j) : wayM (p :: t) a b = wayM t a b := by
  unfold wayM
  have e1 : idx a (p :: t) = some (i + 1) := by unfold idx; rw [if_neg ha, hi]; rfl
  have e2 : idx b (p :: t) = some (j + 1) := by unfold idx; rw [if_neg hb, hj]; rfl
  rw [e1, e2, hi, hj]
  simp
theorem thr_falls (k : Nat) (ok : Sto → Bool) (hok : ∀ s, ok s = true) (st : Sto) (e0 e3 e4 e5 e6 e9 e10 e11 e12 e13 e14 : Option D) (a b : Int) : ∀ (t : Thr) (u v : Option D) (i j : Nat), idx a t = some i → idx b t = some j →
    ∃ δ', evFor (evG (.tup [.name 7, .name 8])) (evSs (cf k) l41_3) ok (t.map partD) [e0, some (.int a), some (.int b), e3, e4, e5, e6, u, v, e9, e10, e11, e12, e13, e14] st = some (.rt (fallD (wayM t a b)), δ', st)
  | [], u, v, i, j, hi, _ => by simp [idx] at hi
  | p :: t, u, v, i, j, hi, hj => by
    have da := inD_ints a p.1
    have db := inD_ints b p.1
    have ka : idx a (p :: t) = if a ∈ p.1 then some 0 else (idx a t).map (· + 1) := rfl
    have kb : idx b (p :: t) = if b ∈ p.1 then some 0 else (idx b t).map (· + 1) := rfl
    by_cases ha : a ∈ p.1
    · refine ⟨[e0, some (.int a), some (.int b), e3, e4, e5, e6, some (lotD p.1), some (.int p.2), e9, e10, e11, e12, e13, e14], ?_⟩
      rw [List.map_cons]
      refine evFor_ret (δ1 := [e0, some (.int a), some (.int b), e3, e4, e5, e6, some (lotD p.1), some (.int p.2), e9, e10, e11, e12, e13, e14]) (hok _) (by simp [sl, evSs, evS, evE, evEs, evI, evG, evGs, setAll, wipeD, isD_int, isD_bool, isD_str, isD_tup, kInt_non, kInt_bl, kInt_int, kInt_str, kInt_tup, kInt_lst, kBool_non, kBool_bl, kBool_int, kBool_str, kBool_tup, kBool_lst, kStr_non, kStr_bl, kStr_int, kStr_str, kStr_tup, kStr_lst, kTup_non, kTup_bl, kTup_int, kTup_str, kTup_tup, kTup_lst, atI_0, atI_1, atI_2, atI_3, cop, bop, b1D, b2D, ixD, seq_eq, seqX_tup, seqX_lst, seqX_scr, derL_eq, lstX_lst, der_loc, derLoc_lst, derLoc_dct, der_non, der_bl, der_int, der_str, der_tup, der_lst, der_scr, methD, mkL, D.isNon, D.isBl, oint, E.isSkip, slD, revD, dgetD, isLstS, truD, ints?, bls?, der_lotD, der_partD, der_thrD, der_mD, der_prD, seq_lotD, seq_partD, seq_thrD, partD]) ?_
      by_cases hb : b ∈ p.1
      · have hw : wayM (p :: t) a b = if p.2 = 1 then mSame else mTurn := by
          unfold wayM
          rw [ka, kb, if_pos ha, if_pos hb]
          simp
        rw [hw]
        have d1 := deq_int p.2 1
        by_cases h1 : p.2 = 1
        · simp [l41_3, sl, evSs, evS, evE, evEs, evI, evG, evGs, setAll, wipeD, isD_int, isD_bool, isD_str, isD_tup, kInt_non, kInt_bl, kInt_int, kInt_str, kInt_tup, kInt_lst, kBool_non, kBool_bl, kBool_int, kBool_str, kBool_tup, kBool_lst, kStr_non, kStr_bl, kStr_int, kStr_str, kStr_tup, kStr_lst, kTup_non, kTup_bl, kTup_int, kTup_str, kTup_tup, kTup_lst, atI_0, atI_1, atI_2, atI_3, cop, bop, b1D, b2D, ixD, seq_eq, seqX_tup, seqX_lst, seqX_scr, derL_eq, lstX_lst, der_loc, derLoc_lst, derLoc_dct, der_non, der_bl, der_int, der_str, der_tup, der_lst, der_scr, methD, mkL, D.isNon, D.isBl, oint, E.isSkip, slD, revD, dgetD, isLstS, truD, ints?, bls?, der_lotD, der_partD, der_thrD, der_mD, der_prD, seq_lotD, seq_partD, seq_thrD, da, db, ha, hb, d1, h1, fallD, mask, mSame]
          simp [deq_int]
        · simp [l41_3, sl, evSs, evS, evE, evEs, evI, evG, evGs, setAll, wipeD, isD_int, isD_bool, isD_str, isD_tup, kInt_non, kInt_bl, kInt_int, kInt_str, kInt_tup, kInt_lst, kBool_non, kBool_bl, kBool_int, kBool_str, kBool_tup, kBool_lst, kStr_non, kStr_bl, kStr_int, kStr_str, kStr_tup, kStr_lst, kTup_non, kTup_bl, kTup_int, kTup_str, kTup_tup, kTup_lst, atI_0, atI_1, atI_2, atI_3, cop, bop, b1D, b2D, ixD, seq_eq, seqX_tup, seqX_lst, seqX_scr, derL_eq, lstX_lst, der_loc, derLoc_lst, derLoc_dct, der_non, der_bl, der_int, der_str, der_tup, der_lst, der_scr, methD, mkL, D.isNon, D.isBl, oint, E.isSkip, slD, revD, dgetD, isLstS, truD, ints?, bls?, der_lotD, der_partD, der_thrD, der_mD, der_prD, seq_lotD, seq_partD, seq_thrD, da, db, ha, hb, d1, h1, fallD, mask, mTurn]
      · have hw : wayM (p :: t) a b = mAhead := by
          obtain ⟨m, hm⟩ : ∃ m, idx b t = some m := by
            rw [kb, if_neg hb] at hj
            obtain ⟨m, h, _⟩ := Option.map_eq_some_iff.mp hj
            exact ⟨m, h⟩
          unfold wayM
          rw [ka, kb, if_pos ha, if_neg hb, hm]
          simp
        rw [hw]
        simp [l41_3, sl, evSs, evS, evE, evEs, evI, evG, evGs, setAll, wipeD, isD_int, isD_bool, isD_str, isD_tup, kInt_non, kInt_bl, kInt_int, kInt_str, kInt_tup, kInt_lst, kBool_non, kBool_bl, kBool_int, kBool_str, kBool_tup, kBool_lst, kStr_non, kStr_bl, kStr_int, kStr_str, kStr_tup, kStr_lst, kTup_non, kTup_bl, kTup_int, kTup_str, kTup_tup, kTup_lst, atI_0, atI_1, atI_2, atI_3, cop, bop, b1D, b2D, ixD, seq_eq, seqX_tup, seqX_lst, seqX_scr, derL_eq, lstX_lst, der_loc, derLoc_lst, derLoc_dct, der_non, der_bl, der_int, der_str, der_tup, der_lst, der_scr, methD, mkL, D.isNon, D.isBl, oint, E.isSkip, slD, revD, dgetD, isLstS, truD, ints?, bls?, der_lotD, der_partD, der_thrD, der_mD, der_prD, seq_lotD, seq_partD, seq_thrD, da, db, ha, hb, fallD, mask, mAhead]
    · by_cases hb : b ∈ p.1
      · refine ⟨[e0, some (.int a), some (.int b), e3, e4, e5, e6, some (lotD p.1), some (.int p.2), e9, e10, e11, e12, e13, e14], ?_⟩
        rw [List.map_cons]
        refine evFor_ret (δ1 := [e0, some (.int a), some (.int b), e3, e4, e5, e6, some (lotD p.1), some (.int p.2), e9, e10, e11, e12, e13, e14]) (hok _) (by simp [sl, evSs, evS, evE, evEs, evI, evG, evGs, setAll, wipeD, isD_int, isD_bool, isD_str, isD_tup, kInt_non, kInt_bl, kInt_int, kInt_str, kInt_tup, kInt_lst, kBool_non, kBool_bl, kBool_int, kBool_str, kBool_tup, kBool_lst, kStr_non, kStr_bl, kStr_int, kStr_str, kStr_tup, kStr_lst, kTup_non, kTup_bl, kTup_int, kTup_str, kTup_tup, kTup_lst, atI_0, atI_1, atI_2, atI_3, cop, bop, b1D, b2D, ixD, seq_eq, seqX_tup, seqX_lst, seqX_scr, derL_eq, lstX_lst, der_loc, derLoc_lst, derLoc_dct, der_non, der_bl, der_int, der_str, der_tup, der_lst, der_scr, methD, mkL, D.isNon, D.isBl, oint, E.isSkip, slD, revD, dgetD, isLstS, truD, ints?, bls?, der_lotD, der_partD, der_thrD, der_mD, der_prD, seq_lotD, seq_partD, seq_thrD, partD]) ?_
        have hw : wayM (p :: t) a b = mBehind := by
          obtain ⟨m, hm⟩ : ∃ m, idx a t = some m := by
            rw [ka, if_neg ha] at hi
            obtain ⟨m, h, _⟩ := Option.map_eq_some_iff.mp hi
            exact ⟨m, h⟩
          unfold wayM
          rw [ka, kb, if_neg ha, if_pos hb, hm]
          simp
        rw [hw]
        simp [l41_3, sl, evSs, evS, evE, evEs, evI, evG, evGs, setAll, wipeD, isD_int, isD_bool, isD_str, isD_tup, kInt_non, kInt_bl, kInt_int, kInt_str, kInt_tup, kInt_lst, kBool_non, kBool_bl, kBool_int, kBool_str, kBool_tup, kBool_lst, kStr_non, kStr_bl, kStr_int, kStr_str, kStr_tup, kStr_lst, kTup_non, kTup_bl, kTup_int, kTup_str, kTup_tup, kTup_lst, atI_0, atI_1, atI_2, atI_3, cop, bop, b1D, b2D, ixD, seq_eq, seqX_tup, seqX_lst, seqX_scr, derL_eq, lstX_lst, der_loc, derLoc_lst, derLoc_dct, der_non, der_bl, der_int, der_str, der_tup, der_lst, der_scr, methD, mkL, D.isNon, D.isBl, oint, E.isSkip, slD, revD, dgetD, isLstS, truD, ints?, bls?, der_lotD, der_partD, der_thrD, der_mD, der_prD, seq_lotD, seq_partD, seq_thrD, da, db, ha, hb, fallD, mask, mBehind]
      · rw [ka, if_neg ha] at hi
        rw [kb, if_neg hb] at hj
        obtain ⟨i', hi, _⟩ := Option.map_eq_some_iff.mp hi
        obtain ⟨j', hj, _⟩ := Option.map_eq_some_iff.mp hj
        obtain ⟨δ', ih⟩ := thr_falls k ok hok st e0 e3 e4 e5 e6 e9 e10 e11 e12 e13 e14 a b t (some (lotD p.1)) (some (.int p.2)) i' j' hi hj
        refine ⟨δ', ?_⟩
        rw [way_cons ha hb hi hj, List.map_cons, evFor_cons (δ1 := [e0, some (.int a), some (.int b), e3, e4, e5, e6, some (lotD p.1), some (.int p.2), e9, e10, e11, e12, e13, e14]) (δ2 := [e0, some (.int a), some (.int b), e3, e4, e5, e6, some (lotD p.1), some (.int p.2), e9, e10, e11, e12, e13, e14]) (st2 := st) (hok _) (by simp [sl, evSs, evS, evE, evEs, evI, evG, evGs, setAll, wipeD, isD_int, isD_bool, isD_str, isD_tup, kInt_non, kInt_bl, kInt_int, kInt_str, kInt_tup, kInt_lst, kBool_non, kBool_bl, kBool_int, kBool_str, kBool_tup, kBool_lst, kStr_non, kStr_bl, kStr_int, kStr_str, kStr_tup, kStr_lst, kTup_non, kTup_bl, kTup_int, kTup_str, kTup_tup, kTup_lst, atI_0, atI_1, atI_2, atI_3, cop, bop, b1D, b2D, ixD, seq_eq, seqX_tup, seqX_lst, seqX_scr, derL_eq, lstX_lst, der_loc, derLoc_lst, derLoc_dct, der_non, der_bl, der_int, der_str, der_tup, der_lst, der_scr, methD, mkL, D.isNon, D.isBl, oint, E.isSkip, slD, revD, dgetD, isLstS, truD, ints?, bls?, der_lotD, der_partD, der_thrD, der_mD, der_prD, seq_lotD, seq_partD, seq_thrD, partD]) (by simp [l41_3, sl, evSs, evS, evE, evEs, evI, evG, evGs, setAll, wipeD, isD_int, isD_bool, isD_str, isD_tup, kInt_non, kInt_bl, kInt_int, kInt_str, kInt_tup, kInt_lst, kBool_non, kBool_bl, kBool_int, kBool_str, kBool_tup, kBool_lst, kStr_non, kStr_bl, kStr_int, kStr_str, kStr_tup, kStr_lst, kTup_non, kTup_bl, kTup_int, kTup_str, kTup_tup, kTup_lst, atI_0, atI_1, atI_2, atI_3, cop, bop, b1D, b2D, ixD, seq_eq, seqX_tup, seqX_lst, seqX_scr, derL_eq, lstX_lst, der_loc, derLoc_lst, derLoc_dct, der_non, der_bl, der_int, der_str, der_tup, der_lst, der_scr, methD, mkL, D.isNon, D.isBl, oint, E.isSkip, slD, revD, dgetD, isLstS, truD, ints?, bls?, der_lotD, der_partD, der_thrD, der_mD, der_prD, seq_lotD, seq_partD, seq_thrD, da, db, ha, hb])]
        exact ih
/-! ### the two rows -/
theorem two_rows (k : Nat) (st : Sto) (F : Bool × Bool → Bool × Bool) (e0 e1 e2 e3 e4 : Option D)
    (hF : ∀ (x : Bool × Bool) (s : Sto) (a b c : Option D), ∃ a' b' c', evS (cf k) f41_0 [e0, e1, e2, e3, e4, some (.loc st.length), some (.int (mask x.1 x.2)), none, none, none, none, none, a, b, c] s = some (.nx, [e0, e1, e2, e3, e4, some (.loc st.length), some (.int (mask (F x).1 (F x).2)), none, none, none, none, none, a', b', c'], s)) :
    ∃ δ', evS (cf k) f41_1 [e0, e1, e2, e3, e4, some (.loc st.length), none, none, none, none, none, none, none, none, none] (st ++ [.lst []]) = some (.nx, δ', st ++ [.lst [.int (mask (F (true, false)).1 (F (true, false)).2), .int (mask (F (false, true)).1 (F (false, true)).2)]]) ∧ δ'[5]? = some (some (.loc st.length)) := by
  obtain ⟨a1, b1, c1, h1⟩ := hF (true, false) (st ++ [.lst []]) none none none
  obtain ⟨a2, b2, c2, h2⟩ := hF (false, true) (st ++ [.lst [.int (mask (F (true, false)).1 (F (true, false)).2)]]) a1 b1 c1
  have m1 : mask true false = 1 := rfl
  have m2 : mask false true = 2 := rfl
  rw [m1] at h1
  rw [m2] at h2
  have l0 : 0 < LIM := by unfold LIM; omega
  have l1 : 1 < LIM := by unfold LIM; omega
  refine ⟨[e0, e1, e2, e3, e4, some (.loc st.length), some (.int (mask (F (false, true)).1 (F (false, true)).2)), none, none, none, none, none, a2, b2, c2], ?_, rfl⟩
  refine evS_for (st1 := st ++ [.lst []]) (w := ⟨[.int 1, .int 2], keeps (.tup [.int 1, .int 2]) [.int 1, .int 2]⟩) (by simp [sl, evSs, evS, evE, evEs, evI, evG, evGs, setAll, wipeD, isD_int, isD_bool, isD_str, isD_tup, kInt_non, kInt_bl, kInt_int, kInt_str, kInt_tup, kInt_lst, kBool_non, kBool_bl, kBool_int, kBool_str, kBool_tup, kBool_lst, kStr_non, kStr_bl, kStr_int, kStr_str, kStr_tup, kStr_lst, kTup_non, kTup_bl, kTup_int, kTup_str, kTup_tup, kTup_lst, atI_0, atI_1, atI_2, atI_3, cop, bop, b1D, b2D, ixD, seq_eq, seqX_tup, seqX_lst, seqX_scr, derL_eq, lstX_lst, der_loc, derLoc_lst, derLoc_dct, der_non, der_bl, der_int, der_str, der_tup, der_lst, der_scr, methD, mkL, D.isNon, D.isBl, oint, E.isSkip, slD, revD, dgetD, isLstS, truD, ints?, bls?, der_lotD, der_partD, der_thrD, der_mD, der_prD, seq_lotD, seq_partD, seq_thrD]) ?_
  have ok : ∀ s, keeps (.tup [.int 1, .int 2]) [.int 1, .int 2] s = true := fun _ => rfl
  rw [evFor_cons (ok _) (δ1 := [e0, e1, e2, e3, e4, some (.loc st.length), some (.int 1), none, none, none, none, none, none, none, none]) (δ2 := [e0, e1, e2, e3, e4, some (.loc st.length), some (.int (mask (F (true, false)).1 (F (true, false)).2)), none, none, none, none, none, a1, b1, c1]) (st2 := st ++ [.lst [.int (mask (F (true, false)).1 (F (true, false)).2)]]) (by simp [sl, evSs, evS, evE, evEs, evI, evG, evGs, setAll, wipeD, isD_int, isD_bool, isD_str, isD_tup, kInt_non, kInt_bl, kInt_int, kInt_str, kInt_tup, kInt_lst, kBool_non, kBool_bl, kBool_int, kBool_str, kBool_tup, kBool_lst, kStr_non, kStr_bl, kStr_int, kStr_str, kStr_tup, kStr_lst, kTup_non, kTup_bl, kTup_int, kTup_str, kTup_tup, kTup_lst, atI_0, atI_1, atI_2, atI_3, cop, bop, b1D, b2D, ixD, seq_eq, seqX_tup, seqX_lst, seqX_scr, derL_eq, lstX_lst, der_loc, derLoc_lst, derLoc_dct, der_non, der_bl, der_int, der_str, der_tup, der_lst, der_scr, methD, mkL, D.isNon, D.isBl, oint, E.isSkip, slD, revD, dgetD, isLstS, truD, ints?, bls?, der_lotD, der_partD, der_thrD, der_mD, der_prD, seq_lotD, seq_partD, seq_thrD]) (by simp only [l41_1, evSs, h1, Option.bind_some]; simp [sl, evSs, evS, evE, evEs, evI, evG, evGs, setAll, wipeD, isD_int, isD_bool, isD_str, isD_tup, kInt_non, kInt_bl, kInt_int, kInt_str, kInt_tup, kInt_lst, kBool_non, kBool_bl, kBool_int, kBool_str, kBool_tup, kBool_lst, kStr_non, kStr_bl, kStr_int, kStr_str, kStr_tup, kStr_lst, kTup_non, kTup_bl, kTup_int, kTup_str, kTup_tup, kTup_lst, atI_0, atI_1, atI_2, atI_3, cop, bop, b1D, b2D, ixD, seq_eq, seqX_tup, seqX_lst, seqX_scr, derL_eq, lstX_lst, der_loc, derLoc_lst, derLoc_dct, der_non, der_bl, der_int, der_str, der_tup, der_lst, der_scr, methD, mkL, D.isNon, D.isBl, oint, E.isSkip, slD, revD, dgetD, isLstS, truD, ints?, bls?, der_lotD, der_partD, der_thrD, der_mD, der_prD, seq_lotD, seq_partD, seq_thrD, get_last, set_last, l0])]
  rw [evFor_cons (ok _) (δ1 := [e0, e1, e2, e3, e4, some (.loc st.length), some (.int 2), none, none, none, none, none, a1, b1, c1]) (δ2 := [e0, e1, e2, e3, e4, some (.loc st.length), some (.int (mask (F (false, true)).1 (F (false, true)).2)), none, none, none, none, none, a2, b2, c2]) (st2 := st ++ [.lst [.int (mask (F (true, false)).1 (F (true, false)).2), .int (mask (F (false, true)).1 (F (false, true)).2)]]) (by simp [sl, evSs, evS, evE, evEs, evI, evG, evGs, setAll, wipeD, isD_int, isD_bool, isD_str, isD_tup, kInt_non, kInt_bl, kInt_int, kInt_str, kInt_tup, kInt_lst, kBool_non, kBool_bl, kBool_int, kBool_str, kBool_tup, kBool_lst, kStr_non, kStr_bl, kStr_int, kStr_str, kStr_tup, kStr_lst, kTup_non, kTup_bl, kTup_int, kTup_str, kTup_tup, kTup_lst, atI_0, atI_1, atI_2, atI_3, cop, bop, b1D, b2D, ixD, seq_eq, seqX_tup, seqX_lst, seqX_scr, derL_eq, lstX_lst, der_loc, derLoc_lst, derLoc_dct, der_non, der_bl, der_int, der_str, der_tup, der_lst, der_scr, methD, mkL, D.isNon, D.isBl, oint, E.isSkip, slD, revD, dgetD, isLstS, truD, ints?, bls?, der_lotD, der_partD, der_thrD, der_mD, der_prD, seq_lotD, seq_partD, seq_thrD]) (by simp only [l41_1, evSs, h2, Option.bind_some]; simp [sl, evSs, evS, evE, evEs, evI, evG, evGs, setAll, wipeD, isD_int, isD_bool, isD_str, isD_tup, kInt_non, kInt_bl, kInt_int, kInt_str, kInt_tup, kInt_lst, kBool_non, kBool_bl, kBool_int, kBool_str, kBool_tup, kBool_lst, kStr_non, kStr_bl, kStr_int, kStr_str, kStr_tup, kStr_lst, kTup_non, kTup_bl, kTup_int, kTup_str, kTup_tup, kTup_lst, atI_0, atI_1, atI_2, atI_3, cop, bop, b1D, b2D, ixD, seq_eq, seqX_tup, seqX_lst, seqX_scr, derL_eq, lstX_lst, der_loc, derLoc_lst, derLoc_dct, der_non, der_bl, der_int, der_str, der_tup, der_lst, der_scr, methD, mkL, D.isNon, D.isBl, oint, E.isSkip, slD, revD, dgetD, isLstS, truD, ints?, bls?, der_lotD, der_partD, der_thrD, der_mD, der_prD, seq_lotD, seq_partD, seq_thrD, get_last, set_last, l1])]
  exact evFor_nil (ok _)
/-! ### 39, 41 -/
theorem e_inn_row (k : Nat) (ps : List Pr) (st : Sto) : evCall prg (k + 1) 39 [prD (.row ps)] st = some (.tup (ps.map prD), st) := by
  refine call_ret0 (d := d39) rfl rfl (δ := [some (prD (.row ps))]) ?_ (by rw [← prDs_map]; exact bel_prs ps)
  have d1 := deq_str "row" "row" ok_row ok_row
  have d2 := deq_str "choice" "row" ok_choice ok_row
  simp [d39, b39, sl, evSs, evS, evE, evEs, evI, evG, evGs, setAll, wipeD, isD_int, isD_bool, isD_str, isD_tup, kInt_non, kInt_bl, kInt_int, kInt_str, kInt_tup, kInt_lst, kBool_non, kBool_bl, kBool_int, kBool_str, kBool_tup, kBool_lst, kStr_non, kStr_bl, kStr_int, kStr_str, kStr_tup, kStr_lst, kTup_non, kTup_bl, kTup_int, kTup_str, kTup_tup, kTup_lst, atI_0, atI_1, atI_2, atI_3, cop, bop, b1D, b2D, ixD, seq_eq, seqX_tup, seqX_lst, seqX_scr, derL_eq, lstX_lst, der_loc, derLoc_lst, derLoc_dct, der_non, der_bl, der_int, der_str, der_tup, der_lst, der_scr, methD, mkL, D.isNon, D.isBl, oint, E.isSkip, slD, revD, dgetD, isLstS, truD, ints?, bls?, der_lotD, der_partD, der_thrD, der_mD, der_prD, seq_lotD, seq_partD, seq_thrD, prD, inD, d1, d2, prDs_map]
theorem e_inn_choice (k : Nat) (ps : List Pr) (st : Sto) : evCall prg (k + 1) 39 [prD (.choice ps)] st = some (.tup (ps.map prD), st) := by
  refine call_ret0 (d := d39) rfl rfl (δ := [some (prD (.choice ps))]) ?_ (by rw [← prDs_map]; exact bel_prs ps)
  have d1 := deq_str "row" "choice" ok_row ok_choice
  have d2 := deq_str "choice" "choice" ok_choice ok_choice
  simp [d39, b39, sl, evSs, evS, evE, evEs, evI, evG, evGs, setAll, wipeD, isD_int, isD_bool, isD_str, isD_tup, kInt_non, kInt_bl, kInt_int, kInt_str, kInt_tup, kInt_lst, kBool_non, kBool_bl, kBool_int, kBool_str, kBool_tup, kBool_lst, kStr_non, kStr_bl, kStr_int, kStr_str, kStr_tup, kStr_lst, kTup_non, kTup_bl, kTup_int, kTup_str, kTup_tup, kTup_lst, atI_0, atI_1, atI_2, atI_3, cop, bop, b1D, b2D, ixD, seq_eq, seqX_tup, seqX_lst, seqX_scr, derL_eq, lstX_lst, der_loc, derLoc_lst, derLoc_dct, der_non, der_bl, der_int, der_str, der_tup, der_lst, der_scr, methD, mkL, D.isNon, D.isBl, oint, E.isSkip, slD, revD, dgetD, isLstS, truD, ints?, bls?, der_lotD, der_partD, der_thrD, der_mD, der_prD, seq_lotD, seq_partD, seq_thrD, prD, inD, d1, d2, prDs_map]
theorem e_inn_often (k : Nat) (p : Pr) (st : Sto) : evCall prg (k + 1) 39 [prD (.often p)] st = some (.tup [prD p], st) := by
  refine call_ret0 (d := d39) rfl rfl (δ := [some (prD (.often p))]) ?_ (bel_prs [p])
  have d1 := deq_str "row" "often" ok_row ok_often
  have d2 := deq_str "choice" "often" ok_choice ok_often
  have d3 := deq_str "often" "often" ok_often ok_often
  simp [d39, b39, sl, evSs, evS, evE, evEs, evI, evG, evGs, setAll, wipeD, isD_int, isD_bool, isD_str, isD_tup, kInt_non, kInt_bl, kInt_int, kInt_str, kInt_tup, kInt_lst, kBool_non, kBool_bl, kBool_int, kBool_str, kBool_tup, kBool_lst, kStr_non, kStr_bl, kStr_int, kStr_str, kStr_tup, kStr_lst, kTup_non, kTup_bl, kTup_int, kTup_str, kTup_tup, kTup_lst, atI_0, atI_1, atI_2, atI_3, cop, bop, b1D, b2D, ixD, seq_eq, seqX_tup, seqX_lst, seqX_scr, derL_eq, lstX_lst, der_loc, derLoc_lst, derLoc_dct, der_non, der_bl, der_int, der_str, der_tup, der_lst, der_scr, methD, mkL, D.isNon, D.isBl, oint, E.isSkip, slD, revD, dgetD, isLstS, truD, ints?, bls?, der_lotD, der_partD, der_thrD, der_mD, der_prD, seq_lotD, seq_partD, seq_thrD, prD, inD, d1, d2, d3, s_row_often, s_choice_often]
theorem len_prs {ps : List Pr} (h : szs ps ≤ 1000) : ps.length ≤ LIM := by have := szs_le (ps := ps); unfold LIM; omega
theorem e_falls {n : Nat} (a b : Int) (ha : Rn n a) (hb : Rn n b) (st : Sto) (j : Nat) : ∀ (m : Nat) (p : Pr), dp p ≤ m → VPr n p → sz p ≤ 1000 → evCall prg (m + 1 + j) 41 [prD p, .int a, .int b] st = some (fallD (link p a b), st)
  | 0, p, hd, _, _ => by have := dp_inner p; omega
  | m + 1, p, hd, hv, hz => by
    have ih := e_falls a b ha hb st j m
    rw [show m + 1 + 1 + j = (m + 1 + j) + 1 by omega]
    cases p with
    | throw t =>
      obtain ⟨i, hi⟩ := idx_some (in_flat hv ha.1 ha.2)
      obtain ⟨j', hj⟩ := idx_some (in_flat hv hb.1 hb.2)
      obtain ⟨δ', f0⟩ := thr_falls (m + 1 + j) (keeps (thrD t) (t.map partD)) (fun _ => rfl) st (some (.tup [.str "throw", thrD t])) (some (.str "throw")) none none none none none none none none none a b t none none i j' hi hj
      have f : evS (cf (m + 1 + j)) f41_3 [some (.tup [.str "throw", thrD t]), some (.int a), some (.int b), some (.str "throw"), none, none, none, none, none, none, none, none, none, none, none] st = some (.rt (fallD (wayM t a b)), δ', st) :=
        evS_for (st1 := st) (w := ⟨t.map partD, keeps (thrD t) (t.map partD)⟩) (by simp [sl, evSs, evS, evE, evEs, evI, evG, evGs, setAll, wipeD, isD_int, isD_bool, isD_str, isD_tup, kInt_non, kInt_bl, kInt_int, kInt_str, kInt_tup, kInt_lst, kBool_non, kBool_bl, kBool_int, kBool_str, kBool_tup, kBool_lst, kStr_non, kStr_bl, kStr_int, kStr_str, kStr_tup, kStr_lst, kTup_non, kTup_bl, kTup_int, kTup_str, kTup_tup, kTup_lst, atI_0, atI_1, atI_2, atI_3, cop, bop, b1D, b2D, ixD, seq_eq, seqX_tup, seqX_lst, seqX_scr, derL_eq, lstX_lst, der_loc, derLoc_lst, derLoc_dct, der_non, der_bl, der_int, der_str, der_tup, der_lst, der_scr, methD, mkL, D.isNon, D.isBl, oint, E.isSkip, slD, revD, dgetD, isLstS, truD, ints?, bls?, der_lotD, der_partD, der_thrD, der_mD, der_prD, seq_lotD, seq_partD, seq_thrD]) f0
      refine call_ret0 (d := d41) rfl rfl (δ := δ') ?_ (bel_fall _)
      have d1 := deq_str "throw" "throw" ok_throw ok_throw
      simp [d41, b41, sl, evSs, evS, evE, evEs, evI, evG, evGs, setAll, wipeD, isD_int, isD_bool, isD_str, isD_tup, kInt_non, kInt_bl, kInt_int, kInt_str, kInt_tup, kInt_lst, kBool_non, kBool_bl, kBool_int, kBool_str, kBool_tup, kBool_lst, kStr_non, kStr_bl, kStr_int, kStr_str, kStr_tup, kStr_lst, kTup_non, kTup_bl, kTup_int, kTup_str, kTup_tup, kTup_lst, atI_0, atI_1, atI_2, atI_3, cop, bop, b1D, b2D, ixD, seq_eq, seqX_tup, seqX_lst, seqX_scr, derL_eq, lstX_lst, der_loc, derLoc_lst, derLoc_dct, der_non, der_bl, der_int, der_str, der_tup, der_lst, der_scr, methD, mkL, D.isNon, D.isBl, oint, E.isSkip, slD, revD, dgetD, isLstS, truD, ints?, bls?, der_lotD, der_partD, der_thrD, der_mD, der_prD, seq_lotD, seq_partD, seq_thrD, prD, d1, f, link]
    | parted l p q =>
      have d1 := deq_str "parted" "throw" ok_parted ok_throw
      have d2 := deq_str "parted" "parted" ok_parted ok_parted
      simp only [dp] at hd
      simp only [sz] at hz
      have i1 := ih p (by omega) hv.2.1 (by omega)
      have i2 := ih q (by omega) hv.2.2 (by omega)
      refine call_ret0 (d := d41) rfl rfl (δ := [some (prD (.parted l p q)), some (.int a), some (.int b), some (.str "parted"), none, none, none, none, none, none, none, none, none, none, none]) ?_ (bel_fall _)
      have ka := inD_ints a l
      have kb := inD_ints b l
      by_cases h1 : a ∈ l <;> by_cases h2 : b ∈ l <;>
        simp [d41, b41, sl, evSs, evS, evE, evEs, evI, evG, evGs, setAll, wipeD, isD_int, isD_bool, isD_str, isD_tup, kInt_non, kInt_bl, kInt_int, kInt_str, kInt_tup, kInt_lst, kBool_non, kBool_bl, kBool_int, kBool_str, kBool_tup, kBool_lst, kStr_non, kStr_bl, kStr_int, kStr_str, kStr_tup, kStr_lst, kTup_non, kTup_bl, kTup_int, kTup_str, kTup_tup, kTup_lst, atI_0, atI_1, atI_2, atI_3, cop, bop, b1D, b2D, ixD, seq_eq, seqX_tup, seqX_lst, seqX_scr, derL_eq, lstX_lst, der_loc, derLoc_lst, derLoc_dct, der_non, der_bl, der_int, der_str, der_tup, der_lst, der_scr, methD, mkL, D.isNon, D.isBl, oint, E.isSkip, slD, revD, dgetD, isLstS, truD, ints?, bls?, der_lotD, der_partD, der_thrD, der_mD, der_prD, seq_lotD, seq_partD, seq_thrD, prD, d1, d2, s_parted_throw, ka, kb, h1, h2, deq_bl, i1, i2, link, fallD, mask, mAny]
    | often p =>
      have d1 := deq_str "often" "throw" ok_often ok_throw
      have d2 := deq_str "often" "parted" ok_often ok_parted
      have d3 := deq_str "often" "choice" ok_often ok_choice
      have d4 := deq_str "often" "row" ok_often ok_row
      simp only [dp] at hd
      simp only [sz] at hz
      have i1 := ih p (by omega) hv (by omega)
      have e39 := e_inn_often (m + j) p st
      rw [show m + j + 1 = m + 1 + j by omega] at e39
      have l1 : 1 ≤ LIM := by unfold LIM; omega
      have q : evE (cf (m + 1 + j)) q41_0 [some (prD (.often p)), some (.int a), some (.int b), some (.str "often"), none, none, none, none, none, none, none, none, none, none, none] st = some (.lst [fallD (link p a b)], st) := by
        refine evE_comp (st1 := st) (w := ⟨[p].map prD, fun st => keeps (.tup ([p].map prD)) ([p].map prD) st⟩) (by simp [sl, evSs, evS, evE, evEs, evI, evG, evGs, setAll, wipeD, isD_int, isD_bool, isD_str, isD_tup, kInt_non, kInt_bl, kInt_int, kInt_str, kInt_tup, kInt_lst, kBool_non, kBool_bl, kBool_int, kBool_str, kBool_tup, kBool_lst, kStr_non, kStr_bl, kStr_int, kStr_str, kStr_tup, kStr_lst, kTup_non, kTup_bl, kTup_int, kTup_str, kTup_tup, kTup_lst, atI_0, atI_1, atI_2, atI_3, cop, bop, b1D, b2D, ixD, seq_eq, seqX_tup, seqX_lst, seqX_scr, derL_eq, lstX_lst, der_loc, derLoc_lst, derLoc_dct, der_non, der_bl, der_int, der_str, der_tup, der_lst, der_scr, methD, mkL, D.isNon, D.isBl, oint, E.isSkip, slD, revD, dgetD, isLstS, truD, ints?, bls?, der_lotD, der_partD, der_thrD, der_mD, der_prD, seq_lotD, seq_partD, seq_thrD, e39]) (evC_mapL prD (fun q => fallD (link q a b)) rfl fun q hq => ⟨_, rfl, rfl, ?_⟩) (mkL_ok (xs := [_]) l1)
        obtain rfl := List.mem_singleton.mp hq
        simp [sl, evSs, evS, evE, evEs, evI, evG, evGs, setAll, wipeD, isD_int, isD_bool, isD_str, isD_tup, kInt_non, kInt_bl, kInt_int, kInt_str, kInt_tup, kInt_lst, kBool_non, kBool_bl, kBool_int, kBool_str, kBool_tup, kBool_lst, kStr_non, kStr_bl, kStr_int, kStr_str, kStr_tup, kStr_lst, kTup_non, kTup_bl, kTup_int, kTup_str, kTup_tup, kTup_lst, atI_0, atI_1, atI_2, atI_3, cop, bop, b1D, b2D, ixD, seq_eq, seqX_tup, seqX_lst, seqX_scr, derL_eq, lstX_lst, der_loc, derLoc_lst, derLoc_dct, der_non, der_bl, der_int, der_str, der_tup, der_lst, der_scr, methD, mkL, D.isNon, D.isBl, oint, E.isSkip, slD, revD, dgetD, isLstS, truD, ints?, bls?, der_lotD, der_partD, der_thrD, der_mD, der_prD, seq_lotD, seq_partD, seq_thrD, i1]
      obtain ⟨δ', f, f2⟩ := two_rows (m + 1 + j) st (fun x => [link p a b, link p a b].foldl vof x) (some (prD (.often p))) (some (.int a)) (some (.int b)) (some (.str "often")) (some (.lst [fallD (link p a b)])) fun x s u v w => by
        obtain ⟨a', b', c', h⟩ := row_often (m + 1 + j) (keeps (.lst ([link p a b, link p a b].map fallD)) ([link p a b, link p a b].map fallD)) (fun _ => rfl) s (some (prD (.often p))) (some (.int a)) (some (.int b)) (some (.lst [fallD (link p a b)])) (some (.loc st.length)) none none none none none [link p a b, link p a b] x u v w
        have l2 : 2 ≤ LIM := by unfold LIM; omega
        exact ⟨a', b', c', evS_for (st1 := s) (w := ⟨[link p a b, link p a b].map fallD, keeps (.lst ([link p a b, link p a b].map fallD)) ([link p a b, link p a b].map fallD)⟩) (by simp [sl, evSs, evS, evE, evEs, evI, evG, evGs, setAll, wipeD, isD_int, isD_bool, isD_str, isD_tup, kInt_non, kInt_bl, kInt_int, kInt_str, kInt_tup, kInt_lst, kBool_non, kBool_bl, kBool_int, kBool_str, kBool_tup, kBool_lst, kStr_non, kStr_bl, kStr_int, kStr_str, kStr_tup, kStr_lst, kTup_non, kTup_bl, kTup_int, kTup_str, kTup_tup, kTup_lst, atI_0, atI_1, atI_2, atI_3, cop, bop, b1D, b2D, ixD, seq_eq, seqX_tup, seqX_lst, seqX_scr, derL_eq, lstX_lst, der_loc, derLoc_lst, derLoc_dct, der_non, der_bl, der_int, der_str, der_tup, der_lst, der_scr, methD, mkL, D.isNon, D.isBl, oint, E.isSkip, slD, revD, dgetD, isLstS, truD, ints?, bls?, der_lotD, der_partD, der_thrD, der_mD, der_prD, seq_lotD, seq_partD, seq_thrD, d4, s_often_row, l2]) h⟩
      have r1 := vof_tf (link p a b)
      have r2 := vof_ft (link p a b)
      simp only [r1, r2] at f
      refine call_ret (d := d41) (ex := [.lst [.int (mask (link p a b).oft.a (link p a b).oft.b), .int (mask (link p a b).oft.c (link p a b).oft.d)]]) rfl rfl (δ := δ') ?_ (bel_fall _)
      simp only [link, prD] at q f f2 ⊢
      have lim0 : 0 ≤ LIM := by unfold LIM; omega
      have hf : fallD (link p a b).oft = .tup [.int (mask (link p a b).oft.a (link p a b).oft.b), .int (mask (link p a b).oft.c (link p a b).oft.d)] := rfl
      simp [d41, b41, sl, evSs, evS, evE, evEs, evI, evG, evGs, setAll, wipeD, isD_int, isD_bool, isD_str, isD_tup, kInt_non, kInt_bl, kInt_int, kInt_str, kInt_tup, kInt_lst, kBool_non, kBool_bl, kBool_int, kBool_str, kBool_tup, kBool_lst, kStr_non, kStr_bl, kStr_int, kStr_str, kStr_tup, kStr_lst, kTup_non, kTup_bl, kTup_int, kTup_str, kTup_tup, kTup_lst, atI_0, atI_1, atI_2, atI_3, cop, bop, b1D, b2D, ixD, seq_eq, seqX_tup, seqX_lst, seqX_scr, derL_eq, lstX_lst, der_loc, derLoc_lst, derLoc_dct, der_non, der_bl, der_int, der_str, der_tup, der_lst, der_scr, methD, mkL, D.isNon, D.isBl, oint, E.isSkip, slD, revD, dgetD, isLstS, truD, ints?, bls?, der_lotD, der_partD, der_thrD, der_mD, der_prD, seq_lotD, seq_partD, seq_thrD, d1, d2, d3, s_often_throw, s_often_parted, s_often_choice, q, f, f2, lim0, get_last, hf]
    | row ps =>
      have d1 := deq_str "row" "throw" ok_row ok_throw
      have d2 := deq_str "row" "parted" ok_row ok_parted
      have d3 := deq_str "row" "choice" ok_row ok_choice
      have d4 := deq_str "row" "row" ok_row ok_row
      simp only [dp] at hd
      simp only [sz] at hz
      have lim := len_prs (ps := ps) (by omega)
      have e39 := e_inn_row (m + j) ps st
      rw [show m + j + 1 = m + 1 + j by omega] at e39
      have q : evE (cf (m + 1 + j)) q41_0 [some (prD (.row ps)), some (.int a), some (.int b), some (.str "row"), none, none, none, none, none, none, none, none, none, none, none] st = some (.lst ((ps.map fun p => link p a b).map fallD), st) := by
        rw [List.map_map]
        refine evE_comp (st1 := st) (w := ⟨ps.map prD, fun st => keeps (.tup (ps.map prD)) (ps.map prD) st⟩) (by simp [sl, evSs, evS, evE, evEs, evI, evG, evGs, setAll, wipeD, isD_int, isD_bool, isD_str, isD_tup, kInt_non, kInt_bl, kInt_int, kInt_str, kInt_tup, kInt_lst, kBool_non, kBool_bl, kBool_int, kBool_str, kBool_tup, kBool_lst, kStr_non, kStr_bl, kStr_int, kStr_str, kStr_tup, kStr_lst, kTup_non, kTup_bl, kTup_int, kTup_str, kTup_tup, kTup_lst, atI_0, atI_1, atI_2, atI_3, cop, bop, b1D, b2D, ixD, seq_eq, seqX_tup, seqX_lst, seqX_scr, derL_eq, lstX_lst, der_loc, derLoc_lst, derLoc_dct, der_non, der_bl, der_int, der_str, der_tup, der_lst, der_scr, methD, mkL, D.isNon, D.isBl, oint, E.isSkip, slD, revD, dgetD, isLstS, truD, ints?, bls?, der_lotD, der_partD, der_thrD, der_mD, der_prD, seq_lotD, seq_partD, seq_thrD, e39]) (evC_mapL prD (fallD ∘ fun p => link p a b) rfl fun q hq => ⟨_, rfl, rfl, ?_⟩) (mkL_ok (by simpa using lim))
        have := ih q (by have := dps_le hq; omega) (VPrs_mem.mp hv q hq) (by have := mem_sz hq; omega)
        simp [sl, evSs, evS, evE, evEs, evI, evG, evGs, setAll, wipeD, isD_int, isD_bool, isD_str, isD_tup, kInt_non, kInt_bl, kInt_int, kInt_str, kInt_tup, kInt_lst, kBool_non, kBool_bl, kBool_int, kBool_str, kBool_tup, kBool_lst, kStr_non, kStr_bl, kStr_int, kStr_str, kStr_tup, kStr_lst, kTup_non, kTup_bl, kTup_int, kTup_str, kTup_tup, kTup_lst, atI_0, atI_1, atI_2, atI_3, cop, bop, b1D, b2D, ixD, seq_eq, seqX_tup, seqX_lst, seqX_scr, derL_eq, lstX_lst, der_loc, derLoc_lst, derLoc_dct, der_non, der_bl, der_int, der_str, der_tup, der_lst, der_scr, methD, mkL, D.isNon, D.isBl, oint, E.isSkip, slD, revD, dgetD, isLstS, truD, ints?, bls?, der_lotD, der_partD, der_thrD, der_mD, der_prD, seq_lotD, seq_partD, seq_thrD, this]
      have hl : link (.row ps) a b = (ps.map fun p => link p a b).foldl Mx.thn mSame := by rw [link, links_map]
      rw [hl]
      clear ih e39
      generalize (ps.map fun p => link p a b) = ms at q ⊢
      obtain ⟨δ', f, f2⟩ := two_rows (m + 1 + j) st (fun x => ms.foldl vth x) (some (prD (.row ps))) (some (.int a)) (some (.int b)) (some (.str "row")) (some (.lst (ms.map fallD))) fun x s u v w => by
        obtain ⟨a', b', c', h⟩ := row_row (m + 1 + j) (keeps (.lst (ms.map fallD)) (ms.map fallD)) (fun _ => rfl) s (some (prD (.row ps))) (some (.int a)) (some (.int b)) (some (.lst (ms.map fallD))) (some (.loc st.length)) none none none none none ms x u v w
        exact ⟨a', b', c', evS_for (st1 := s) (w := ⟨ms.map fallD, keeps (.lst (ms.map fallD)) (ms.map fallD)⟩) (by simp [sl, evSs, evS, evE, evEs, evI, evG, evGs, setAll, wipeD, isD_int, isD_bool, isD_str, isD_tup, kInt_non, kInt_bl, kInt_int, kInt_str, kInt_tup, kInt_lst, kBool_non, kBool_bl, kBool_int, kBool_str, kBool_tup, kBool_lst, kStr_non, kStr_bl, kStr_int, kStr_str, kStr_tup, kStr_lst, kTup_non, kTup_bl, kTup_int, kTup_str, kTup_tup, kTup_lst, atI_0, atI_1, atI_2, atI_3, cop, bop, b1D, b2D, ixD, seq_eq, seqX_tup, seqX_lst, seqX_scr, derL_eq, lstX_lst, der_loc, derLoc_lst, derLoc_dct, der_non, der_bl, der_int, der_str, der_tup, der_lst, der_scr, methD, mkL, D.isNon, D.isBl, oint, E.isSkip, slD, revD, dgetD, isLstS, truD, ints?, bls?, der_lotD, der_partD, der_thrD, der_mD, der_prD, seq_lotD, seq_partD, seq_thrD, d4]) h⟩
      have r1 := vth_fold (true, false) ms mSame
      have r2 := vth_fold (false, true) ms mSame
      rw [vth_same, vth_tf] at r1
      rw [vth_same, vth_ft] at r2
      simp only [r1, r2] at f
      refine call_ret (d := d41) (ex := [.lst [.int (mask (ms.foldl Mx.thn mSame).a (ms.foldl Mx.thn mSame).b), .int (mask (ms.foldl Mx.thn mSame).c (ms.foldl Mx.thn mSame).d)]]) rfl rfl (δ := δ') ?_ (bel_fall _)
      simp only [prD] at q f f2 ⊢
      have lim0 : 0 ≤ LIM := by unfold LIM; omega
      simp [d41, b41, sl, evSs, evS, evE, evEs, evI, evG, evGs, setAll, wipeD, isD_int, isD_bool, isD_str, isD_tup, kInt_non, kInt_bl, kInt_int, kInt_str, kInt_tup, kInt_lst, kBool_non, kBool_bl, kBool_int, kBool_str, kBool_tup, kBool_lst, kStr_non, kStr_bl, kStr_int, kStr_str, kStr_tup, kStr_lst, kTup_non, kTup_bl, kTup_int, kTup_str, kTup_tup, kTup_lst, atI_0, atI_1, atI_2, atI_3, cop, bop, b1D, b2D, ixD, seq_eq, seqX_tup, seqX_lst, seqX_scr, derL_eq, lstX_lst, der_loc, derLoc_lst, derLoc_dct, der_non, der_bl, der_int, der_str, der_tup, der_lst, der_scr, methD, mkL, D.isNon, D.isBl, oint, E.isSkip, slD, revD, dgetD, isLstS, truD, ints?, bls?, der_lotD, der_partD, der_thrD, der_mD, der_prD, seq_lotD, seq_partD, seq_thrD, d1, d2, d3, s_row_throw, s_row_parted, s_row_choice, q, f, f2, lim0, get_last, fallD]
    | choice ps =>
      have d1 := deq_str "choice" "throw" ok_choice ok_throw
      have d2 := deq_str "choice" "parted" ok_choice ok_parted
      have d3 := deq_str "choice" "choice" ok_choice ok_choice
      simp only [dp] at hd
      simp only [sz] at hz
      have lim := len_prs (ps := ps) (by omega)
      have e39 := e_inn_choice (m + j) ps st
      rw [show m + j + 1 = m + 1 + j by omega] at e39
      have q : evE (cf (m + 1 + j)) q41_0 [some (prD (.choice ps)), some (.int a), some (.int b), some (.str "choice"), none, none, none, none, none, none, none, none, none, none, none] st = some (.lst ((ps.map fun p => link p a b).map fallD), st) := by
        rw [List.map_map]
        refine evE_comp (st1 := st) (w := ⟨ps.map prD, fun st => keeps (.tup (ps.map prD)) (ps.map prD) st⟩) (by simp [sl, evSs, evS, evE, evEs, evI, evG, evGs, setAll, wipeD, isD_int, isD_bool, isD_str, isD_tup, kInt_non, kInt_bl, kInt_int, kInt_str, kInt_tup, kInt_lst, kBool_non, kBool_bl, kBool_int, kBool_str, kBool_tup, kBool_lst, kStr_non, kStr_bl, kStr_int, kStr_str, kStr_tup, kStr_lst, kTup_non, kTup_bl, kTup_int, kTup_str, kTup_tup, kTup_lst, atI_0, atI_1, atI_2, atI_3, cop, bop, b1D, b2D, ixD, seq_eq, seqX_tup, seqX_lst, seqX_scr, derL_eq, lstX_lst, der_loc, derLoc_lst, derLoc_dct, der_non, der_bl, der_int, der_str, der_tup, der_lst, der_scr, methD, mkL, D.isNon, D.isBl, oint, E.isSkip, slD, revD, dgetD, isLstS, truD, ints?, bls?, der_lotD, der_partD, der_thrD, der_mD, der_prD, seq_lotD, seq_partD, seq_thrD, e39]) (evC_mapL prD (fallD ∘ fun p => link p a b) rfl fun q hq => ⟨_, rfl, rfl, ?_⟩) (mkL_ok (by simpa using lim))
        have := ih q (by have := dps_le hq; omega) (VPrs_mem.mp hv.2 q hq) (by have := mem_sz hq; omega)
        simp [sl, evSs, evS, evE, evEs, evI, evG, evGs, setAll, wipeD, isD_int, isD_bool, isD_str, isD_tup, kInt_non, kInt_bl, kInt_int, kInt_str, kInt_tup, kInt_lst, kBool_non, kBool_bl, kBool_int, kBool_str, kBool_tup, kBool_lst, kStr_non, kStr_bl, kStr_int, kStr_str, kStr_tup, kStr_lst, kTup_non, kTup_bl, kTup_int, kTup_str, kTup_tup, kTup_lst, atI_0, atI_1, atI_2, atI_3, cop, bop, b1D, b2D, ixD, seq_eq, seqX_tup, seqX_lst, seqX_scr, derL_eq, lstX_lst, der_loc, derLoc_lst, derLoc_dct, der_non, der_bl, der_int, der_str, der_tup, der_lst, der_scr, methD, mkL, D.isNon, D.isBl, oint, E.isSkip, slD, revD, dgetD, isLstS, truD, ints?, bls?, der_lotD, der_partD, der_thrD, der_mD, der_prD, seq_lotD, seq_partD, seq_thrD, this]
      have hne := hv.1
      have hl : link (.choice ps) a b = (ps.map fun p => link p a b).foldl Mx.or ⟨false, false, false, false⟩ := by
        rw [link, links_map]
        cases ps with
        | nil => exact absurd rfl hne
        | cons x xs => simp [Mx.or]
      rw [hl]
      clear ih e39
      generalize (ps.map fun p => link p a b) = ms at q ⊢
      obtain ⟨a', b', f0⟩ := choice_or (m + 1 + j) (keeps (.lst (ms.map fallD)) (ms.map fallD)) (fun _ => rfl) st (some (prD (.choice ps))) (some (.int a)) (some (.int b)) (some (.str "choice")) (some (.lst (ms.map fallD))) none none none none none none ms ⟨false, false, false, false⟩ none none
      have z0 : mask false false = 0 := rfl
      simp only [z0] at f0
      have f : evS (cf (m + 1 + j)) f41_2 [some (prD (.choice ps)), some (.int a), some (.int b), some (.str "choice"), some (.lst (ms.map fallD)), none, none, none, none, none, some (.int 0), some (.int 0), none, none, none] st = _ := evS_for (st1 := st) (w := ⟨ms.map fallD, keeps (.lst (ms.map fallD)) (ms.map fallD)⟩) (by simp [sl, evSs, evS, evE, evEs, evI, evG, evGs, setAll, wipeD, isD_int, isD_bool, isD_str, isD_tup, kInt_non, kInt_bl, kInt_int, kInt_str, kInt_tup, kInt_lst, kBool_non, kBool_bl, kBool_int, kBool_str, kBool_tup, kBool_lst, kStr_non, kStr_bl, kStr_int, kStr_str, kStr_tup, kStr_lst, kTup_non, kTup_bl, kTup_int, kTup_str, kTup_tup, kTup_lst, atI_0, atI_1, atI_2, atI_3, cop, bop, b1D, b2D, ixD, seq_eq, seqX_tup, seqX_lst, seqX_scr, derL_eq, lstX_lst, der_loc, derLoc_lst, derLoc_dct, der_non, der_bl, der_int, der_str, der_tup, der_lst, der_scr, methD, mkL, D.isNon, D.isBl, oint, E.isSkip, slD, revD, dgetD, isLstS, truD, ints?, bls?, der_lotD, der_partD, der_thrD, der_mD, der_prD, seq_lotD, seq_partD, seq_thrD]) f0
      refine call_ret0 (d := d41) rfl rfl (δ := [some (prD (.choice ps)), some (.int a), some (.int b), some (.str "choice"), some (.lst (ms.map fallD)), none, none, none, none, none, some (.int (mask (ms.foldl Mx.or ⟨false, false, false, false⟩).a (ms.foldl Mx.or ⟨false, false, false, false⟩).b)), some (.int (mask (ms.foldl Mx.or ⟨false, false, false, false⟩).c (ms.foldl Mx.or ⟨false, false, false, false⟩).d)), a', b', none]) ?_ (bel_fall _)
      simp only [prD] at q f ⊢
      simp [d41, b41, sl, evSs, evS, evE, evEs, evI, evG, evGs, setAll, wipeD, isD_int, isD_bool, isD_str, isD_tup, kInt_non, kInt_bl, kInt_int, kInt_str, kInt_tup, kInt_lst, kBool_non, kBool_bl, kBool_int, kBool_str, kBool_tup, kBool_lst, kStr_non, kStr_bl, kStr_int, kStr_str, kStr_tup, kStr_lst, kTup_non, kTup_bl, kTup_int, kTup_str, kTup_tup, kTup_lst, atI_0, atI_1, atI_2, atI_3, cop, bop, b1D, b2D, ixD, seq_eq, seqX_tup, seqX_lst, seqX_scr, derL_eq, lstX_lst, der_loc, derLoc_lst, derLoc_dct, der_non, der_bl, der_int, der_str, der_tup, der_lst, der_scr, methD, mkL, D.isNon, D.isBl, oint, E.isSkip, slD, revD, dgetD, isLstS, truD, ints?, bls?, der_lotD, der_partD, der_thrD, der_mD, der_prD, seq_lotD, seq_partD, seq_thrD, d1, d2, d3, s_choice_throw, s_choice_parted, q, f, fallD]
theorem e_falls6 {n : Nat} {a b : Int} (ha : Rn n a) (hb : Rn n b) (k : Nat) {p : Pr} (g : GP n p) (st : Sto) : evCall prg (k + 7) 41 [prD p, .int a, .int b] st = some (fallD (link p a b), st) := by
  have := e_falls a b ha hb st k 6 p g.d g.v (by have := g.z; omega)
  rwa [show 6 + 1 + k = k + 7 by omega] at this
/-! ### 42, 43, 44 -/
theorem e_law_ends {n : Nat} {a b : Int} (ha : Rn n a) (hb : Rn n b) (k : Nat) {p : Pr} (g : GP n p) (st : Sto) : evCall prg (k + 8) 42 [prD p, .int a, .int b] st = some (endsD (link p a b).a (link p a b).b, st) := by
  have e := e_falls6 ha hb k g st
  refine call_ret0 (d := d42) rfl rfl (δ := [some (prD p), some (.int a), some (.int b)]) ?_ (bel_ends _ _)
  generalize link p a b = m at e ⊢
  obtain ⟨x, y, z, w⟩ := m
  cases x <;> cases y <;> simp [d42, b42, sl, evSs, evS, evE, evEs, evI, evG, evGs, setAll, wipeD, isD_int, isD_bool, isD_str, isD_tup, kInt_non, kInt_bl, kInt_int, kInt_str, kInt_tup, kInt_lst, kBool_non, kBool_bl, kBool_int, kBool_str, kBool_tup, kBool_lst, kStr_non, kStr_bl, kStr_int, kStr_str, kStr_tup, kStr_lst, kTup_non, kTup_bl, kTup_int, kTup_str, kTup_tup, kTup_lst, atI_0, atI_1, atI_2, atI_3, cop, bop, b1D, b2D, ixD, seq_eq, seqX_tup, seqX_lst, seqX_scr, derL_eq, lstX_lst, der_loc, derLoc_lst, derLoc_dct, der_non, der_bl, der_int, der_str, der_tup, der_lst, der_scr, methD, mkL, D.isNon, D.isBl, oint, E.isSkip, slD, revD, dgetD, isLstS, truD, ints?, bls?, der_lotD, der_partD, der_thrD, der_mD, der_prD, seq_lotD, seq_partD, seq_thrD, e, fallD, mask, endsD, endsL]
def prsL (n : Nat) (as : List Int) : List (Int × Int) := as.flatMap fun a => (rgI n).map fun b => (a, b)
def duo (x : Int × Int) : D := .tup [.int x.1, .int x.2]
theorem bel_duos (l : List (Int × Int)) : D.bel 0 (.lst (l.map duo)) = true := bels_all fun d hd => by
  obtain ⟨x, _, rfl⟩ := List.mem_map.mp hd
  rfl
theorem prsL_len (n : Nat) (as : List Int) : (prsL n as).length = as.length * n := by
  induction as with
  | nil => simp [prsL]
  | cons a as ih =>
    unfold prsL at ih ⊢
    rw [List.flatMap_cons, List.length_append, ih, List.length_map, List.length_cons, Nat.succ_mul]
    simp [rgI]; omega
theorem f43_loop {n : Nat} (hn : n ≤ 8) (k m : Nat) (st : Sto) (hm : st.length = m) : ∀ (as : List Int) (acc : List (Int × Int)) (x : Option D), acc.length + as.length * 8 ≤ 1000 → ∃ x', evFor (evG (.name 2)) (evSs (cf k) l43_0) (fun _ => true) (as.map D.int) [some (.int n), some (.loc m), x, none] (st ++ [.lst (acc.map duo)]) = some (.nx, [some (.int n), some (.loc m), x', none], st ++ [.lst ((acc ++ prsL n as).map duo)])
  | [], acc, x, h => ⟨x, by simp [evFor, prsL]⟩
  | a :: as, acc, x, h => by
    rw [List.length_cons] at h
    have hl : (rgI n).length = n := by simp [rgI]
    obtain ⟨x', ih⟩ := f43_loop hn k m st hm as (acc ++ (rgI n).map fun b => (a, b)) (some (.int a)) (by rw [List.length_append, List.length_map, hl]; omega)
    refine ⟨x', ?_⟩
    have e : acc ++ prsL n (a :: as) = acc ++ ((rgI n).map fun b => (a, b)) ++ prsL n as := by
      unfold prsL
      rw [List.flatMap_cons, List.append_assoc]
    rw [e, ← ih, List.map_cons]
    refine evFor_cons rfl (δ1 := [some (.int n), some (.loc m), some (.int a), none]) (by simp [evG]) ?_
    have q : evE (cf k) q43_0 [some (.int n), some (.loc m), some (.int a), none] (st ++ [.lst (acc.map duo)]) = some (.lst (((rgI n).map fun b => (a, b)).map duo), st ++ [.lst (acc.map duo)]) := by
      rw [List.map_map]
      exact evE_comp (i_rng k n 0 hn _ _ rfl) (evC_mapL D.int (duo ∘ fun b => (a, b)) rfl fun q hq => ⟨_, rfl, rfl, by simp [sl, evSs, evS, evE, evEs, evI, evG, evGs, setAll, wipeD, isD_int, isD_bool, isD_str, isD_tup, kInt_non, kInt_bl, kInt_int, kInt_str, kInt_tup, kInt_lst, kBool_non, kBool_bl, kBool_int, kBool_str, kBool_tup, kBool_lst, kStr_non, kStr_bl, kStr_int, kStr_str, kStr_tup, kStr_lst, kTup_non, kTup_bl, kTup_int, kTup_str, kTup_tup, kTup_lst, atI_0, atI_1, atI_2, atI_3, cop, bop, b1D, b2D, ixD, seq_eq, seqX_tup, seqX_lst, seqX_scr, derL_eq, lstX_lst, der_loc, derLoc_lst, derLoc_dct, der_non, der_bl, der_int, der_str, der_tup, der_lst, der_scr, methD, mkL, D.isNon, D.isBl, oint, E.isSkip, slD, revD, dgetD, isLstS, truD, ints?, bls?, der_lotD, der_partD, der_thrD, der_mD, der_prD, seq_lotD, seq_partD, seq_thrD, duo]⟩) (mkL_ok (by rw [List.length_map, hl]; unfold LIM; omega))
    subst hm
    have l2 : (acc.map duo).length + (((rgI n).map fun b => (a, b)).map duo).length ≤ LIM := by
      rw [List.length_map, List.length_map, List.length_map, hl]; unfold LIM; omega
    rw [List.map_append]
    generalize (((rgI n).map fun b => (a, b)).map duo) = ys at q l2 ⊢
    generalize acc.map duo = zs at q l2 ⊢
    simp [l43_0, sl, evSs, evS, evE, evEs, evI, evG, evGs, setAll, wipeD, isD_int, isD_bool, isD_str, isD_tup, kInt_non, kInt_bl, kInt_int, kInt_str, kInt_tup, kInt_lst, kBool_non, kBool_bl, kBool_int, kBool_str, kBool_tup, kBool_lst, kStr_non, kStr_bl, kStr_int, kStr_str, kStr_tup, kStr_lst, kTup_non, kTup_bl, kTup_int, kTup_str, kTup_tup, kTup_lst, atI_0, atI_1, atI_2, atI_3, cop, bop, b1D, b2D, ixD, seq_eq, seqX_tup, seqX_lst, seqX_scr, derL_eq, lstX_lst, der_loc, derLoc_lst, derLoc_dct, der_non, der_bl, der_int, der_str, der_tup, der_lst, der_scr, methD, mkL, D.isNon, D.isBl, oint, E.isSkip, slD, revD, dgetD, isLstS, truD, ints?, bls?, der_lotD, der_partD, der_thrD, der_mD, der_prD, seq_lotD, seq_partD, seq_thrD, q, get_last, set_last, l2]
theorem e_pairs {n : Nat} (hn : n ≤ 8) (k : Nat) (st : Sto) : evCall prg (k + 1) 43 [.int n] st = some (.lst ((prsL n (rgI n)).map duo), st) := by
  have hl : (rgI n).length = n := by simp [rgI]
  obtain ⟨x', f0⟩ := f43_loop hn k st.length st rfl (rgI n) [] none (by rw [hl]; simp; omega)
  have f : evS (cf k) f43_0 [some (.int n), some (.loc st.length), none, none] (st ++ [.lst []]) = some (.nx, [some (.int n), some (.loc st.length), x', none], st ++ [.lst ((prsL n (rgI n)).map duo)]) := evS_for (i_rng k n 0 hn _ _ rfl) f0
  have lim0 : 0 ≤ LIM := by unfold LIM; omega
  have hb := bel_duos (prsL n (rgI n))
  rw [call_unf k 43 d43 _ st rfl rfl]
  have hbody : evSs (cf k) d43.body ([D.int n].map some ++ List.replicate (d43.N.length - 1) none) st = some (.rt (.loc st.length), [some (.int n), some (.loc st.length), x', none], st ++ [.lst ((prsL n (rgI n)).map duo)]) := by
    simp [d43, b43, sl, evSs, evS, evE, evEs, evI, evG, evGs, setAll, wipeD, isD_int, isD_bool, isD_str, isD_tup, kInt_non, kInt_bl, kInt_int, kInt_str, kInt_tup, kInt_lst, kBool_non, kBool_bl, kBool_int, kBool_str, kBool_tup, kBool_lst, kStr_non, kStr_bl, kStr_int, kStr_str, kStr_tup, kStr_lst, kTup_non, kTup_bl, kTup_int, kTup_str, kTup_tup, kTup_lst, atI_0, atI_1, atI_2, atI_3, cop, bop, b1D, b2D, ixD, seq_eq, seqX_tup, seqX_lst, seqX_scr, derL_eq, lstX_lst, der_loc, derLoc_lst, derLoc_dct, der_non, der_bl, der_int, der_str, der_tup, der_lst, der_scr, methD, mkL, D.isNon, D.isBl, oint, E.isSkip, slD, revD, dgetD, isLstS, truD, ints?, bls?, der_lotD, der_partD, der_thrD, der_mD, der_prD, seq_lotD, seq_partD, seq_thrD, lim0, f]
  show (evSs (cf k) d43.body ([D.int n].map some ++ List.replicate (d43.N.length - 1) none) st).bind _ = _
  rw [hbody]
  show some (leave st (.loc st.length) (st ++ [.lst ((prsL n (rgI n)).map duo)])) = _
  rw [leave_list (Nat.le_refl _) (get_last _ _) (show D.bels 0 _ = true from hb)]
theorem prsL_mem {n : Nat} {x : Int × Int} : x ∈ prsL n (rgI n) ↔ Rn n x.1 ∧ Rn n x.2 := by
  unfold prsL
  rw [List.mem_flatMap]
  constructor
  · rintro ⟨a, ha, h⟩
    obtain ⟨b, hb, rfl⟩ := List.mem_map.mp h
    exact ⟨rgI_mem.mp ha, rgI_mem.mp hb⟩
  · rintro ⟨h1, h2⟩
    exact ⟨x.1, rgI_mem.mpr h1, List.mem_map.mpr ⟨x.2, rgI_mem.mpr h2, rfl⟩⟩
def unlikeL (n : Nat) (p q : Pr) : List (Int × Int) := (prsL n (rgI n)).filter (diffB p q)
theorem e_unlike {n : Nat} (hn : n ≤ 8) (k : Nat) {p q : Pr} (gp : GP n p) (gq : GP n q) (st : Sto) : evCall prg (k + 9) 44 [prD p, prD q, .int n] st = some (.lst ((unlikeL n p q).map duo), st) := by
  have e1 := e_pairs hn (k + 7) st
  have lim : ((unlikeL n p q).map duo).length ≤ LIM := by
    rw [List.length_map]
    have h1 := List.length_filter_le (diffB p q) (prsL n (rgI n))
    have h2 := prsL_len n (rgI n)
    have h3 : (rgI n).length = n := by simp [rgI]
    have h4 : n * n ≤ 8 * 8 := Nat.mul_le_mul hn hn
    rw [h3] at h2
    unfold unlikeL LIM; omega
  have q' : evE (cf (k + 8)) q44_0 [some (prD p), some (prD q), some (.int n), none, none] st = some (.lst ((unlikeL n p q).map duo), st) := by
    refine evE_comp (st1 := st) (w := ⟨(prsL n (rgI n)).map duo, fun st => keeps (.lst ((prsL n (rgI n)).map duo)) ((prsL n (rgI n)).map duo) st⟩) (by simp [sl, evSs, evS, evE, evEs, evI, evG, evGs, setAll, wipeD, isD_int, isD_bool, isD_str, isD_tup, kInt_non, kInt_bl, kInt_int, kInt_str, kInt_tup, kInt_lst, kBool_non, kBool_bl, kBool_int, kBool_str, kBool_tup, kBool_lst, kStr_non, kStr_bl, kStr_int, kStr_str, kStr_tup, kStr_lst, kTup_non, kTup_bl, kTup_int, kTup_str, kTup_tup, kTup_lst, atI_0, atI_1, atI_2, atI_3, cop, bop, b1D, b2D, ixD, seq_eq, seqX_tup, seqX_lst, seqX_scr, derL_eq, lstX_lst, der_loc, derLoc_lst, derLoc_dct, der_non, der_bl, der_int, der_str, der_tup, der_lst, der_scr, methD, mkL, D.isNon, D.isBl, oint, E.isSkip, slD, revD, dgetD, isLstS, truD, ints?, bls?, der_lotD, der_partD, der_thrD, der_mD, der_prD, seq_lotD, seq_partD, seq_thrD, e1]) (evC_filterL duo duo (diffB p q) rfl fun x hx => ⟨[some (prD p), some (prD q), some (.int n), some (.int x.1), some (.int x.2)], by simp [evG, evGs, duo]; rfl, ?_, ?_⟩) (mkL_ok lim)
    · obtain ⟨h1, h2⟩ := prsL_mem.mp hx
      have e1 := e_law_ends h1 h2 k gp st
      have e2 := e_law_ends h1 h2 k gq st
      have dq := deq_ends (link p x.1 x.2).a (link p x.1 x.2).b (link q x.1 x.2).a (link q x.1 x.2).b
      have dr : ∀ x y, der st (endsD x y) = endsD x y := fun _ _ => rfl
      unfold diffB
      simp [sl, evSs, evS, evE, evEs, evI, evG, evGs, setAll, wipeD, isD_int, isD_bool, isD_str, isD_tup, kInt_non, kInt_bl, kInt_int, kInt_str, kInt_tup, kInt_lst, kBool_non, kBool_bl, kBool_int, kBool_str, kBool_tup, kBool_lst, kStr_non, kStr_bl, kStr_int, kStr_str, kStr_tup, kStr_lst, kTup_non, kTup_bl, kTup_int, kTup_str, kTup_tup, kTup_lst, atI_0, atI_1, atI_2, atI_3, cop, bop, b1D, b2D, ixD, seq_eq, seqX_tup, seqX_lst, seqX_scr, derL_eq, lstX_lst, der_loc, derLoc_lst, derLoc_dct, der_non, der_bl, der_int, der_str, der_tup, der_lst, der_scr, methD, mkL, D.isNon, D.isBl, oint, E.isSkip, slD, revD, dgetD, isLstS, truD, ints?, bls?, der_lotD, der_partD, der_thrD, der_mD, der_prD, seq_lotD, seq_partD, seq_thrD, e1, e2, dr, dq]
    · intro _
      simp [sl, evSs, evS, evE, evEs, evI, evG, evGs, setAll, wipeD, isD_int, isD_bool, isD_str, isD_tup, kInt_non, kInt_bl, kInt_int, kInt_str, kInt_tup, kInt_lst, kBool_non, kBool_bl, kBool_int, kBool_str, kBool_tup, kBool_lst, kStr_non, kStr_bl, kStr_int, kStr_str, kStr_tup, kStr_lst, kTup_non, kTup_bl, kTup_int, kTup_str, kTup_tup, kTup_lst, atI_0, atI_1, atI_2, atI_3, cop, bop, b1D, b2D, ixD, seq_eq, seqX_tup, seqX_lst, seqX_scr, derL_eq, lstX_lst, der_loc, derLoc_lst, derLoc_dct, der_non, der_bl, der_int, der_str, der_tup, der_lst, der_scr, methD, mkL, D.isNon, D.isBl, oint, E.isSkip, slD, revD, dgetD, isLstS, truD, ints?, bls?, der_lotD, der_partD, der_thrD, der_mD, der_prD, seq_lotD, seq_partD, seq_thrD, duo]
  refine call_ret0 (d := d44) rfl rfl (δ := [some (prD p), some (prD q), some (.int n), none, none]) ?_ (bel_duos _)
  simp [d44, b44, sl, evSs, evS, evE, evEs, evI, evG, evGs, setAll, wipeD, isD_int, isD_bool, isD_str, isD_tup, kInt_non, kInt_bl, kInt_int, kInt_str, kInt_tup, kInt_lst, kBool_non, kBool_bl, kBool_int, kBool_str, kBool_tup, kBool_lst, kStr_non, kStr_bl, kStr_int, kStr_str, kStr_tup, kStr_lst, kTup_non, kTup_bl, kTup_int, kTup_str, kTup_tup, kTup_lst, atI_0, atI_1, atI_2, atI_3, cop, bop, b1D, b2D, ixD, seq_eq, seqX_tup, seqX_lst, seqX_scr, derL_eq, lstX_lst, der_loc, derLoc_lst, derLoc_dct, der_non, der_bl, der_int, der_str, der_tup, der_lst, der_scr, methD, mkL, D.isNon, D.isBl, oint, E.isSkip, slD, revD, dgetD, isLstS, truD, ints?, bls?, der_lotD, der_partD, der_thrD, der_mD, der_prD, seq_lotD, seq_partD, seq_thrD, q']
end K82
set_option Elab.async false
set_option linter.all false
set_option maxRecDepth 100000
set_option maxHeartbeats 4000000
namespace K82
open PySem Ev
/-! ### 37 -/
theorem same_bl (k : Nat) (x y : Bool) (st : Sto) : evCall prg (k + 1) 37 [.bl x, .bl y] st = some (.bl (x == y), st) := by
  refine call_ret0 (d := d37) rfl rfl (δ := [some (.bl x), some (.bl y), none, none]) ?_ rfl
  have dq := deq_bl x y
  cases y <;> simp [d37, b37, sl, evSs, evS, evE, evEs, evI, evG, evGs, setAll, wipeD, isD_int, isD_bool, isD_str, isD_tup, kInt_non, kInt_bl, kInt_int, kInt_str, kInt_tup, kInt_lst, kBool_non, kBool_bl, kBool_int, kBool_str, kBool_tup, kBool_lst, kStr_non, kStr_bl, kStr_int, kStr_str, kStr_tup, kStr_lst, kTup_non, kTup_bl, kTup_int, kTup_str, kTup_tup, kTup_lst, atI_0, atI_1, atI_2, atI_3, cop, bop, b1D, b2D, ixD, seq_eq, seqX_tup, seqX_lst, seqX_scr, derL_eq, lstX_lst, der_loc, derLoc_lst, derLoc_dct, der_non, der_bl, der_int, der_str, der_tup, der_lst, der_scr, methD, mkL, D.isNon, D.isBl, oint, E.isSkip, slD, revD, dgetD, isLstS, truD, ints?, bls?, der_lotD, der_partD, der_thrD, der_mD, der_prD, seq_lotD, seq_partD, seq_thrD, isiD, dq]
theorem same_str (k : Nat) (x y : PySem.Str) (hx : PyData.strOk x = true) (hy : PyData.strOk y = true) (st : Sto) : evCall prg (k + 1) 37 [.str x, .str y] st = some (.bl (decide (x = y)), st) := by
  refine call_ret0 (d := d37) rfl rfl (δ := [some (.str x), some (.str y), none, none]) ?_ rfl
  have dq := deq_str x y hx hy
  simp [d37, b37, sl, evSs, evS, evE, evEs, evI, evG, evGs, setAll, wipeD, isD_int, isD_bool, isD_str, isD_tup, kInt_non, kInt_bl, kInt_int, kInt_str, kInt_tup, kInt_lst, kBool_non, kBool_bl, kBool_int, kBool_str, kBool_tup, kBool_lst, kStr_non, kStr_bl, kStr_int, kStr_str, kStr_tup, kStr_lst, kTup_non, kTup_bl, kTup_int, kTup_str, kTup_tup, kTup_lst, atI_0, atI_1, atI_2, atI_3, cop, bop, b1D, b2D, ixD, seq_eq, seqX_tup, seqX_lst, seqX_scr, derL_eq, lstX_lst, der_loc, derLoc_lst, derLoc_dct, der_non, der_bl, der_int, der_str, der_tup, der_lst, der_scr, methD, mkL, D.isNon, D.isBl, oint, E.isSkip, slD, revD, dgetD, isLstS, truD, ints?, bls?, der_lotD, der_partD, der_thrD, der_mD, der_prD, seq_lotD, seq_partD, seq_thrD, isiD, dq]
theorem same_int (k : Nat) (x y : Int) (st : Sto) : evCall prg (k + 1) 37 [.int x, .int y] st = some (.bl (decide (x = y)), st) := by
  refine call_ret0 (d := d37) rfl rfl (δ := [some (.int x), some (.int y), none, none]) ?_ rfl
  have dq := deq_int x y
  simp [d37, b37, sl, evSs, evS, evE, evEs, evI, evG, evGs, setAll, wipeD, isD_int, isD_bool, isD_str, isD_tup, kInt_non, kInt_bl, kInt_int, kInt_str, kInt_tup, kInt_lst, kBool_non, kBool_bl, kBool_int, kBool_str, kBool_tup, kBool_lst, kStr_non, kStr_bl, kStr_int, kStr_str, kStr_tup, kStr_lst, kTup_non, kTup_bl, kTup_int, kTup_str, kTup_tup, kTup_lst, atI_0, atI_1, atI_2, atI_3, cop, bop, b1D, b2D, ixD, seq_eq, seqX_tup, seqX_lst, seqX_scr, derL_eq, lstX_lst, der_loc, derLoc_lst, derLoc_dct, der_non, der_bl, der_int, der_str, der_tup, der_lst, der_scr, methD, mkL, D.isNon, D.isBl, oint, E.isSkip, slD, revD, dgetD, isLstS, truD, ints?, bls?, der_lotD, der_partD, der_thrD, der_mD, der_prD, seq_lotD, seq_partD, seq_thrD, isiD, dq]
theorem zip_tri : ∀ ts : List (D × D × Bool), (ts.map (·.1)).zipWith (fun x y => D.tup [x, y]) (ts.map (·.2.1)) = ts.map fun t => .tup [t.1, t.2.1]
  | [] => rfl
  | t :: ts => by rw [List.map_cons, List.map_cons, List.zipWith_cons_cons, zip_tri ts]; rfl
theorem same_tup (k : Nat) (ts : List (D × D × Bool)) (st : Sto) (hl : ts.length ≤ 100) (h : ∀ t ∈ ts, evCall prg (k + 1) 37 [t.1, t.2.1] st = some (.bl t.2.2, st)) : evCall prg (k + 2) 37 [.tup (ts.map (·.1)), .tup (ts.map (·.2.1))] st = some (.bl (ts.all (·.2.2)), st) := by
  have q : evE (cf (k + 1)) q37_0 [some (.tup (ts.map (·.1))), some (.tup (ts.map (·.2.1))), none, none] st = some (.lst (((ts.filter fun t => !t.2.2).map fun _ => (1 : Int)).map D.int), st) := by
    rw [List.map_map]
    refine evE_comp (st1 := st) (w := ⟨ts.map fun t => .tup [t.1, t.2.1], fun _ => true⟩) (by simp [sl, evSs, evS, evE, evEs, evI, evG, evGs, setAll, wipeD, isD_int, isD_bool, isD_str, isD_tup, kInt_non, kInt_bl, kInt_int, kInt_str, kInt_tup, kInt_lst, kBool_non, kBool_bl, kBool_int, kBool_str, kBool_tup, kBool_lst, kStr_non, kStr_bl, kStr_int, kStr_str, kStr_tup, kStr_lst, kTup_non, kTup_bl, kTup_int, kTup_str, kTup_tup, kTup_lst, atI_0, atI_1, atI_2, atI_3, cop, bop, b1D, b2D, ixD, seq_eq, seqX_tup, seqX_lst, seqX_scr, derL_eq, lstX_lst, der_loc, derLoc_lst, derLoc_dct, der_non, der_bl, der_int, der_str, der_tup, der_lst, der_scr, methD, mkL, D.isNon, D.isBl, oint, E.isSkip, slD, revD, dgetD, isLstS, truD, ints?, bls?, der_lotD, der_partD, der_thrD, der_mD, der_prD, seq_lotD, seq_partD, seq_thrD, zip_tri]) (evC_filterL (fun (t : D × D × Bool) => D.tup [t.1, t.2.1]) _ (fun t => !t.2.2) rfl fun t ht => ⟨[some (.tup (ts.map (·.1))), some (.tup (ts.map (·.2.1))), some t.1, some t.2.1], by simp [evG, evGs]; rfl, ?_, ?_⟩) (mkL_ok ?_)
    · have := h t ht
      simp [sl, evSs, evS, evE, evEs, evI, evG, evGs, setAll, wipeD, isD_int, isD_bool, isD_str, isD_tup, kInt_non, kInt_bl, kInt_int, kInt_str, kInt_tup, kInt_lst, kBool_non, kBool_bl, kBool_int, kBool_str, kBool_tup, kBool_lst, kStr_non, kStr_bl, kStr_int, kStr_str, kStr_tup, kStr_lst, kTup_non, kTup_bl, kTup_int, kTup_str, kTup_tup, kTup_lst, atI_0, atI_1, atI_2, atI_3, cop, bop, b1D, b2D, ixD, seq_eq, seqX_tup, seqX_lst, seqX_scr, derL_eq, lstX_lst, der_loc, derLoc_lst, derLoc_dct, der_non, der_bl, der_int, der_str, der_tup, der_lst, der_scr, methD, mkL, D.isNon, D.isBl, oint, E.isSkip, slD, revD, dgetD, isLstS, truD, ints?, bls?, der_lotD, der_partD, der_thrD, der_mD, der_prD, seq_lotD, seq_partD, seq_thrD, this]
    · intro _
      simp [sl, evSs, evS, evE, evEs, evI, evG, evGs, setAll, wipeD, isD_int, isD_bool, isD_str, isD_tup, kInt_non, kInt_bl, kInt_int, kInt_str, kInt_tup, kInt_lst, kBool_non, kBool_bl, kBool_int, kBool_str, kBool_tup, kBool_lst, kStr_non, kStr_bl, kStr_int, kStr_str, kStr_tup, kStr_lst, kTup_non, kTup_bl, kTup_int, kTup_str, kTup_tup, kTup_lst, atI_0, atI_1, atI_2, atI_3, cop, bop, b1D, b2D, ixD, seq_eq, seqX_tup, seqX_lst, seqX_scr, derL_eq, lstX_lst, der_loc, derLoc_lst, derLoc_dct, der_non, der_bl, der_int, der_str, der_tup, der_lst, der_scr, methD, mkL, D.isNon, D.isBl, oint, E.isSkip, slD, revD, dgetD, isLstS, truD, ints?, bls?, der_lotD, der_partD, der_thrD, der_mD, der_prD, seq_lotD, seq_partD, seq_thrD]
    · rw [List.length_map]
      have := List.length_filter_le (fun (t : D × D × Bool) => !t.2.2) ts
      unfold LIM; omega
  refine call_ret0 (d := d37) rfl rfl (δ := [some (.tup (ts.map (·.1))), some (.tup (ts.map (·.2.1))), none, none]) ?_ rfl
  have dl : deq (.int (ts.length : Int)) (.int (ts.length : Int)) = some true := by rw [deq_int]; simp
  have dn := deq_lsts ((ts.filter fun t => !t.2.2).map fun _ => (1 : Int)) []
  have lim0 : 0 ≤ LIM := by unfold LIM; omega
  have he : decide (((ts.filter fun t => !t.2.2).map fun _ => (1 : Int)) = []) = ts.all (·.2.2) := by
    rw [Bool.eq_iff_iff]
    simp [List.filter_eq_nil_iff]
  rw [he] at dn
  generalize ((ts.filter fun t => !t.2.2).map fun _ => (1 : Int)).map D.int = zs at q dn
  simp only [List.map_nil] at dn
  simp only [d37, b37, sl, evSs, evS, evE, evEs, evI, evG, evGs, setAll, wipeD, isD_int, isD_bool, isD_str, isD_tup, kInt_non, kInt_bl, kInt_int, kInt_str, kInt_tup, kInt_lst, kBool_non, kBool_bl, kBool_int, kBool_str, kBool_tup, kBool_lst, kStr_non, kStr_bl, kStr_int, kStr_str, kStr_tup, kStr_lst, kTup_non, kTup_bl, kTup_int, kTup_str, kTup_tup, kTup_lst, atI_0, atI_1, atI_2, atI_3, cop, bop, b1D, b2D, ixD, seq_eq, seqX_tup, seqX_lst, seqX_scr, derL_eq, lstX_lst, der_loc, derLoc_lst, derLoc_dct, der_non, der_bl, der_int, der_str, der_tup, der_lst, der_scr, methD, mkL, D.isNon, D.isBl, oint, E.isSkip, slD, revD, dgetD, isLstS, truD, ints?, bls?, der_lotD, der_partD, der_thrD, der_mD, der_prD, seq_lotD, seq_partD, seq_thrD, isiD, List.map_cons, List.map_nil, List.length_cons, List.length_nil]
  simp [sl, evSs, evS, evE, evEs, evI, evG, evGs, setAll, wipeD, isD_int, isD_bool, isD_str, isD_tup, kInt_non, kInt_bl, kInt_int, kInt_str, kInt_tup, kInt_lst, kBool_non, kBool_bl, kBool_int, kBool_str, kBool_tup, kBool_lst, kStr_non, kStr_bl, kStr_int, kStr_str, kStr_tup, kStr_lst, kTup_non, kTup_bl, kTup_int, kTup_str, kTup_tup, kTup_lst, atI_0, atI_1, atI_2, atI_3, cop, bop, b1D, b2D, ixD, seq_eq, seqX_tup, seqX_lst, seqX_scr, derL_eq, lstX_lst, der_loc, derLoc_lst, derLoc_dct, der_non, der_bl, der_int, der_str, der_tup, der_lst, der_scr, methD, mkL, D.isNon, D.isBl, oint, E.isSkip, slD, revD, dgetD, isLstS, truD, ints?, bls?, der_lotD, der_partD, der_thrD, der_mD, der_prD, seq_lotD, seq_partD, seq_thrD, isiD, dl, q, dn, lim0]
theorem same_len (k : Nat) (xs ys : List D) (st : Sto) (h : xs.length ≠ ys.length) : evCall prg (k + 1) 37 [.tup xs, .tup ys] st = some (.bl false, st) := by
  refine call_ret0 (d := d37) rfl rfl (δ := [some (.tup xs), some (.tup ys), none, none]) ?_ rfl
  have dl : deq (.int (xs.length : Int)) (.int (ys.length : Int)) = some false := by
    rw [deq_int]
    congr 1
    rw [decide_eq_false_iff_not]
    omega
  simp [d37, b37, sl, evSs, evS, evE, evEs, evI, evG, evGs, setAll, wipeD, isD_int, isD_bool, isD_str, isD_tup, kInt_non, kInt_bl, kInt_int, kInt_str, kInt_tup, kInt_lst, kBool_non, kBool_bl, kBool_int, kBool_str, kBool_tup, kBool_lst, kStr_non, kStr_bl, kStr_int, kStr_str, kStr_tup, kStr_lst, kTup_non, kTup_bl, kTup_int, kTup_str, kTup_tup, kTup_lst, atI_0, atI_1, atI_2, atI_3, cop, bop, b1D, b2D, ixD, seq_eq, seqX_tup, seqX_lst, seqX_scr, derL_eq, lstX_lst, der_loc, derLoc_lst, derLoc_dct, der_non, der_bl, der_int, der_str, der_tup, der_lst, der_scr, methD, mkL, D.isNon, D.isBl, oint, E.isSkip, slD, revD, dgetD, isLstS, truD, ints?, bls?, der_lotD, der_partD, der_thrD, der_mD, der_prD, seq_lotD, seq_partD, seq_thrD, isiD, dl]
theorem same_al_al (k : Nat) (st : Sto) : evCall prg (k + 2) 37 [alD, alD] st = some (.bl true, st) :=
  same_tup k [(.str "alike", .str "alike", true)] st (by simp) fun t ht => by
    rw [List.mem_singleton.mp ht]
    simpa using same_str k "alike" "alike" ok_alike ok_alike st
theorem same_un_al (k : Nat) (x : Int × Int) (st : Sto) : evCall prg (k + 2) 37 [unD x, alD] st = some (.bl false, st) := same_len (k + 1) _ _ st (by simp)
theorem same_al_un (k : Nat) (x : Int × Int) (st : Sto) : evCall prg (k + 2) 37 [alD, unD x] st = some (.bl false, st) := same_len (k + 1) _ _ st (by simp)
theorem same_un_un (k : Nat) (x y : Int × Int) (st : Sto) : evCall prg (k + 2) 37 [unD x, unD y] st = some (.bl (decide (x = y)), st) := by
  have := same_tup k [(.str "unlike", .str "unlike", true), (.int x.1, .int y.1, decide (x.1 = y.1)), (.int x.2, .int y.2, decide (x.2 = y.2))] st (by simp) fun t ht => by
    simp only [List.mem_cons, List.not_mem_nil, or_false] at ht
    rcases ht with rfl | rfl | rfl
    · simpa using same_str k "unlike" "unlike" ok_unlike ok_unlike st
    · exact same_int k _ _ st
    · exact same_int k _ _ st
  refine this.trans ?_
  congr 3
  rw [Bool.eq_iff_iff]
  simp [Prod.ext_iff]
/-! ### 45 -/
theorem judge_some {n : Nat} {p q : Pr} {x : Int × Int} (h : judgeF n p q = some x) : x ∈ unlikeL n p q := by
  obtain ⟨a, ha, h2⟩ := List.exists_of_findSome?_eq_some h
  unfold rowF at h2
  obtain ⟨b, h3, rfl⟩ := Option.map_eq_some_iff.mp h2
  have hb := List.mem_of_find?_eq_some h3
  have hd := List.find?_some h3
  exact List.mem_filter.mpr ⟨prsL_mem.mpr ⟨rgI_mem.mp ha, rgI_mem.mp hb⟩, hd⟩
theorem judge_none {n : Nat} {p q : Pr} : judgeF n p q = none ↔ unlikeL n p q = [] := by
  constructor
  · intro h
    unfold unlikeL
    rw [List.filter_eq_nil_iff]
    intro x hx hd
    obtain ⟨h1, h2⟩ := prsL_mem.mp hx
    have h3 := List.findSome?_eq_none_iff.mp h x.1 (rgI_mem.mpr h1)
    unfold rowF at h3
    rw [Option.map_eq_none_iff, List.find?_eq_none] at h3
    exact h3 x.2 (rgI_mem.mpr h2) hd
  · intro h
    cases hj : judgeF n p q with
    | none => rfl
    | some x =>
      have := judge_some hj
      rw [h] at this
      cases this
theorem pl_duos (l : List (Int × Int)) : D.pl 60 (.lst (l.map duo)) = true := by
  show D.pls 59 (l.map duo) = true
  exact pls_of fun d hd => by
    obtain ⟨x, _, rfl⟩ := List.mem_map.mp hd
    rfl
theorem deq_duos (l : List (Int × Int)) : deq (.lst (l.map duo)) (.lst []) = some l.isEmpty := by
  rw [deq_pl (pl_duos l) rfl]
  cases l <;> rfl
theorem e_told {n : Nat} (hn : n ≤ 8) (k : Nat) (p q : Pr) (us : List (Int × Int)) (hus : us = unlikeL n p q) (st : Sto) : evCall prg (k + 3) 45 [.str "alike", .str "unlike", judgeD n p q, .lst (us.map duo)] st = some (.bl true, st) := by
  have lim0 : 0 ≤ LIM := by unfold LIM; omega
  have dn := deq_duos us
  unfold judgeD
  cases hj : judgeF n p q with
  | none =>
    have hu := judge_none.mp hj
    rw [← hus] at hu
    subst hu
    have e := same_al_al k st
    unfold alD at e
    refine call_ret0 (d := d45) rfl rfl (δ := [some (.str "alike"), some (.str "unlike"), some alD, some (.lst []), none, none]) ?_ rfl
    unfold alD
    have dn : deq (.lst []) (.lst []) = some true := dn
    simp [d45, b45, sl, evSs, evS, evE, evEs, evI, evG, evGs, setAll, wipeD, isD_int, isD_bool, isD_str, isD_tup, kInt_non, kInt_bl, kInt_int, kInt_str, kInt_tup, kInt_lst, kBool_non, kBool_bl, kBool_int, kBool_str, kBool_tup, kBool_lst, kStr_non, kStr_bl, kStr_int, kStr_str, kStr_tup, kStr_lst, kTup_non, kTup_bl, kTup_int, kTup_str, kTup_tup, kTup_lst, atI_0, atI_1, atI_2, atI_3, cop, bop, b1D, b2D, ixD, seq_eq, seqX_tup, seqX_lst, seqX_scr, derL_eq, lstX_lst, der_loc, derLoc_lst, derLoc_dct, der_non, der_bl, der_int, der_str, der_tup, der_lst, der_scr, methD, mkL, D.isNon, D.isBl, oint, E.isSkip, slD, revD, dgetD, isLstS, truD, ints?, bls?, der_lotD, der_partD, der_thrD, der_mD, der_prD, seq_lotD, seq_partD, seq_thrD, lim0, e, dn]
  | some x =>
    have hm := judge_some hj
    rw [← hus] at hm
    have lim : ((us.filter fun y => decide (x = y)).map fun _ => (1 : Int)).length ≤ LIM := by
      rw [List.length_map]
      have h1 := List.length_filter_le (fun y => decide (x = y)) us
      have h0 := List.length_filter_le (diffB p q) (prsL n (rgI n))
      have h2 := prsL_len n (rgI n)
      have h3 : (rgI n).length = n := by simp [rgI]
      have h4 : n * n ≤ 8 * 8 := Nat.mul_le_mul hn hn
      rw [h3] at h2
      have h5 : us.length ≤ n * n := by rw [hus]; unfold unlikeL; omega
      unfold LIM; omega
    have q : evE (cf (k + 2)) q45_0 [some (.str "alike"), some (.str "unlike"), some (unD x), some (.lst (us.map duo)), none, none] st = some (.lst (((us.filter fun y => decide (x = y)).map fun _ => (1 : Int)).map D.int), st) := by
      rw [List.map_map]
      refine evE_comp (st1 := st) (w := ⟨us.map duo, fun st => keeps (.lst (us.map duo)) (us.map duo) st⟩) (by simp [sl, evSs, evS, evE, evEs, evI, evG, evGs, setAll, wipeD, isD_int, isD_bool, isD_str, isD_tup, kInt_non, kInt_bl, kInt_int, kInt_str, kInt_tup, kInt_lst, kBool_non, kBool_bl, kBool_int, kBool_str, kBool_tup, kBool_lst, kStr_non, kStr_bl, kStr_int, kStr_str, kStr_tup, kStr_lst, kTup_non, kTup_bl, kTup_int, kTup_str, kTup_tup, kTup_lst, atI_0, atI_1, atI_2, atI_3, cop, bop, b1D, b2D, ixD, seq_eq, seqX_tup, seqX_lst, seqX_scr, derL_eq, lstX_lst, der_loc, derLoc_lst, derLoc_dct, der_non, der_bl, der_int, der_str, der_tup, der_lst, der_scr, methD, mkL, D.isNon, D.isBl, oint, E.isSkip, slD, revD, dgetD, isLstS, truD, ints?, bls?, der_lotD, der_partD, der_thrD, der_mD, der_prD, seq_lotD, seq_partD, seq_thrD]) (evC_filterL duo _ (fun y => decide (x = y)) rfl fun y hy => ⟨[some (.str "alike"), some (.str "unlike"), some (unD x), some (.lst (us.map duo)), some (.int y.1), some (.int y.2)], by simp [evG, evGs, duo]; rfl, ?_, ?_⟩) (mkL_ok (by simpa using lim))
      · have e := same_un_un k x y st
        have e2 : evCall prg (k + 2) 37 [unD x, .tup [.str "unlike", .int y.1, .int y.2]] st = _ := e
        simp [sl, evSs, evS, evE, evEs, evI, evG, evGs, setAll, wipeD, isD_int, isD_bool, isD_str, isD_tup, kInt_non, kInt_bl, kInt_int, kInt_str, kInt_tup, kInt_lst, kBool_non, kBool_bl, kBool_int, kBool_str, kBool_tup, kBool_lst, kStr_non, kStr_bl, kStr_int, kStr_str, kStr_tup, kStr_lst, kTup_non, kTup_bl, kTup_int, kTup_str, kTup_tup, kTup_lst, atI_0, atI_1, atI_2, atI_3, cop, bop, b1D, b2D, ixD, seq_eq, seqX_tup, seqX_lst, seqX_scr, derL_eq, lstX_lst, der_loc, derLoc_lst, derLoc_dct, der_non, der_bl, der_int, der_str, der_tup, der_lst, der_scr, methD, mkL, D.isNon, D.isBl, oint, E.isSkip, slD, revD, dgetD, isLstS, truD, ints?, bls?, der_lotD, der_partD, der_thrD, der_mD, der_prD, seq_lotD, seq_partD, seq_thrD, e2]
      · intro _
        simp [sl, evSs, evS, evE, evEs, evI, evG, evGs, setAll, wipeD, isD_int, isD_bool, isD_str, isD_tup, kInt_non, kInt_bl, kInt_int, kInt_str, kInt_tup, kInt_lst, kBool_non, kBool_bl, kBool_int, kBool_str, kBool_tup, kBool_lst, kStr_non, kStr_bl, kStr_int, kStr_str, kStr_tup, kStr_lst, kTup_non, kTup_bl, kTup_int, kTup_str, kTup_tup, kTup_lst, atI_0, atI_1, atI_2, atI_3, cop, bop, b1D, b2D, ixD, seq_eq, seqX_tup, seqX_lst, seqX_scr, derL_eq, lstX_lst, der_loc, derLoc_lst, derLoc_dct, der_non, der_bl, der_int, der_str, der_tup, der_lst, der_scr, methD, mkL, D.isNon, D.isBl, oint, E.isSkip, slD, revD, dgetD, isLstS, truD, ints?, bls?, der_lotD, der_partD, der_thrD, der_mD, der_prD, seq_lotD, seq_partD, seq_thrD]
    have hne : us.isEmpty = false := by
      cases us with
      | nil => cases hm
      | cons _ _ => rfl
    rw [hne] at dn
    have d2 := deq_lsts ((us.filter fun y => decide (x = y)).map fun _ => (1 : Int)) []
    have hne2 : ¬ ((us.filter fun y => decide (x = y)).map fun _ => (1 : Int)) = [] := by
      rw [List.map_eq_nil_iff]
      intro h
      have : x ∈ us.filter fun y => decide (x = y) := List.mem_filter.mpr ⟨hm, by simp⟩
      rw [h] at this
      cases this
    rw [decide_eq_false hne2] at d2
    refine call_ret0 (d := d45) rfl rfl (δ := [some (.str "alike"), some (.str "unlike"), some (unD x), some (.lst (us.map duo)), none, none]) ?_ rfl
    generalize ((us.filter fun y => decide (x = y)).map fun _ => (1 : Int)).map D.int = zs at q d2
    simp only [List.map_nil] at d2
    have du : ∀ st, der st (unD x) = unD x := fun _ => rfl
    show evSs (cf (k + 2)) b45 [some (.str "alike"), some (.str "unlike"), some (unD x), some (.lst (us.map duo)), none, none] st = _
    generalize us.map duo = ys at q dn
    simp [b45, sl, evSs, evS, evE, evEs, evI, evG, evGs, setAll, wipeD, isD_int, isD_bool, isD_str, isD_tup, kInt_non, kInt_bl, kInt_int, kInt_str, kInt_tup, kInt_lst, kBool_non, kBool_bl, kBool_int, kBool_str, kBool_tup, kBool_lst, kStr_non, kStr_bl, kStr_int, kStr_str, kStr_tup, kStr_lst, kTup_non, kTup_bl, kTup_int, kTup_str, kTup_tup, kTup_lst, atI_0, atI_1, atI_2, atI_3, cop, bop, b1D, b2D, ixD, seq_eq, seqX_tup, seqX_lst, seqX_scr, derL_eq, lstX_lst, der_loc, derLoc_lst, derLoc_dct, der_non, der_bl, der_int, der_str, der_tup, der_lst, der_scr, methD, mkL, D.isNon, D.isBl, oint, E.isSkip, slD, revD, dgetD, isLstS, truD, ints?, bls?, der_lotD, der_partD, der_thrD, der_mD, der_prD, seq_lotD, seq_partD, seq_thrD, lim0, dn, q, d2]
end K82
set_option Elab.async false
set_option linter.all false
set_option maxRecDepth 100000
set_option maxHeartbeats 4000000
namespace K82
open PySem Ev
/-! ### the deck -/
def dkv (m t : Int) : List (L2.Key × D) := [(Sum.inr "cells", .loc 0), (Sum.inr "mixed", .int m), (Sum.inr "turn", .int t)]
def dk (c : List Int) (m t : Int) (rest : Sto) : Sto := .lst (c.map D.int) :: .dct (dkv m t) :: rest
theorem lk_cells (m t : Int) : lookK (dkv m t) "cells" = some (.loc 0) := rfl
theorem lk_mixed (m t : Int) : lookK (dkv m t) "mixed" = some (.int m) := rfl
theorem lk_turn (m t : Int) : lookK (dkv m t) "turn" = some (.int t) := rfl
theorem pk_turn (m t u : Int) : putK (dkv m t) "turn" (.int u) = dkv m u := rfl
theorem p64 {i : Int} (h0 : -(2 ^ 64) < i) (h1 : i < 2 ^ 64) : P64 i = true := by
  unfold P64
  rw [decide_eq_true h0, decide_eq_true h1] <;> rfl
theorem bel_cells (n : Nat) (c : List Int) : D.bels n (c.map D.int) = true := bels_all fun d hd => by
  obtain ⟨x, _, rfl⟩ := List.mem_map.mp hd
  rfl
theorem ints_cells (c : List Int) : D.bel 0 (.lst (c.map D.int)) = true := bel_cells 0 c
/-- how a call that draws leaves the store -/
theorem leave_dk {c c' : List Int} {m t m' t' : Int} {rest ex : Sto} {d : D} (hd : D.bel 0 d = true) (hr : rest.all (SO.bel (rest.length + 2)) = true) : leave (dk c m t rest) d (dk c' m' t' rest ++ ex) = (d, dk c' m' t' rest) := by
  have ho : outD (dk c m t rest) (dk c' m' t' rest ++ ex) d = d := by
    cases d with
    | loc n => simp [D.bel] at hd
    | _ => rfl
  have hl : (dk c' m' t' rest ++ ex).take (dk c m t rest).length = dk c' m' t' rest := by
    have e : (dk c m t rest).length = (dk c' m' t' rest).length := by simp [dk]
    rw [e, List.take_left]
  rw [leave_eq (by rw [ho]; exact bel_mono (Nat.zero_le _) d hd), ho, hl]
  have e : (dk c m t rest).length = rest.length + 2 := by simp [dk]
  rw [hl, e]
  show (D.bels (rest.length + 2) (c'.map D.int) && (D.bels (rest.length + 2) [.loc 0, .int m', .int t'] && rest.all (SO.bel (rest.length + 2)))) = true
  rw [bel_cells, hr]
  simp [D.bels, D.bel]
structure Deck (st rest : Sto) : Prop where
  is : ∃ c m t, st = dk c m t rest ∧ c.length ≤ 1000
  ok : rest.all (SO.bel (rest.length + 2)) = true
theorem call_dk {k f : Nat} {d : Df} {xs : List D} {st rest ex : Sto} {r : D} {δ : Ev.Env} {st' : Sto} (hs : Deck st rest) (hs' : Deck st' rest) (h : prg.defs[f]? = some d) (hl : xs.length = d.ps.length) (hb : evSs (cf k) d.body (xs.map some ++ List.replicate (d.N.length - xs.length) none) st = some (.rt r, δ, st' ++ ex)) (hr : D.bel 0 r = true) :
    evCall prg (k + 1) f xs st = some (r, st') := by
  obtain ⟨c, m, t, rfl, _⟩ := hs.is
  obtain ⟨c', m', t', rfl, _⟩ := hs'.is
  rw [call_unf k f d xs _ h hl, hb]
  show some (leave _ r _) = _
  rw [leave_dk hr hs.ok]
def g1 (f : Int) : Int := (f * 44485 + 59) % 2147483563
def g2 (f t : Int) : Int := (g1 f * g1 f + 80021 * t + 59) % 2147483629
def g3 (f t : Int) : Int := g2 f t * 48271 % 2147483647
theorem e_draw (k : Nat) {st rest : Sto} (hs : Deck st rest) (b : Int) (h0 : 0 < b) (h1 : b < 2 ^ 20) : ∃ (r : Int) (st' : Sto), evCall prg (k + 1) 34 [.loc 1, .int b] st = some (.int r, st') ∧ 0 ≤ r ∧ r < b ∧ Deck st' rest := by
  have hs0 := hs
  obtain ⟨⟨c, m, t, rfl, hc⟩, hr⟩ := hs
  have lim0 : 0 ≤ LIM := by unfold LIM; omega
  have hmod : ∀ x : Int, 0 ≤ x % b ∧ x % b < b := fun x => ⟨Int.emod_nonneg x (by omega), Int.emod_lt_of_pos x h0⟩
  have hq : ∀ x : Int, P64 (g1 x) = true := fun x => by
    have a1 := Int.emod_nonneg (x * 44485 + 59) (b := 2147483563) (by omega)
    have a2 := Int.emod_lt_of_pos (x * 44485 + 59) (b := 2147483563) (by omega)
    exact p64 (by unfold g1; omega) (by unfold g1; omega)
  have q1 : ∀ x : Int, (x * 44485 + 59) % 2147483563 = g1 x := fun _ => rfl
  have q2 : ∀ x t : Int, (g1 x * g1 x + 80021 * t + 59) % 2147483629 = g2 x t := fun _ _ => rfl
  have q3 : ∀ x t : Int, g2 x t * 48271 % 2147483647 = g3 x t := fun _ _ => rfl
  have p1 : P64 70207 = true := by decide +kernel
  have p2 : P64 44485 = true := by decide +kernel
  have p3 : P64 80021 = true := by decide +kernel
  have p4 : P64 48271 = true := by decide +kernel
  have dn := deq_lsts c []
  simp only [List.map_nil] at dn
  rcases List.eq_nil_or_concat c with rfl | ⟨c0, x, rfl⟩
  · have dn0 : deq (.lst []) (.lst []) = some true := by simpa using dn
    have hs' : Deck (dk [] m (t + 1) rest) rest := ⟨⟨[], m, t + 1, rfl, hc⟩, hr⟩
    refine ⟨g3 (m + 70207 * (t + 1)) (t + 1) / 64 % b, dk [] m (t + 1) rest, call_dk (ex := []) (d := d34) (δ := [some (.loc 1), some (.int b), some (.int (g3 (m + 70207 * (t + 1)) (t + 1))), none]) hs0 hs' rfl rfl ?_ rfl, (hmod _).1, (hmod _).2, hs'⟩
    simp [d34, b34, sl, evSs, evS, evE, evEs, evI, evG, evGs, setAll, wipeD, isD_int, isD_bool, isD_str, isD_tup, kInt_non, kInt_bl, kInt_int, kInt_str, kInt_tup, kInt_lst, kBool_non, kBool_bl, kBool_int, kBool_str, kBool_tup, kBool_lst, kStr_non, kStr_bl, kStr_int, kStr_str, kStr_tup, kStr_lst, kTup_non, kTup_bl, kTup_int, kTup_str, kTup_tup, kTup_lst, atI_0, atI_1, atI_2, atI_3, cop, bop, b1D, b2D, ixD, seq_eq, seqX_tup, seqX_lst, seqX_scr, derL_eq, lstX_lst, der_loc, derLoc_lst, derLoc_dct, der_non, der_bl, der_int, der_str, der_tup, der_lst, der_scr, methD, mkL, D.isNon, D.isBl, oint, E.isSkip, slD, revD, dgetD, isLstS, truD, ints?, bls?, der_lotD, der_partD, der_thrD, der_mD, der_prD, seq_lotD, seq_partD, seq_thrD, dk, lk_cells, lk_mixed, lk_turn, pk_turn, dn0, lim0, p1, p2, p3, p4, hq, h0, q1, q2, q3]
  · have dn0 : deq (.lst (c0.map D.int ++ [.int x])) (.lst []) = some false := by simpa using dn
    have hc0 : c0.length + 1 ≤ 1000 := by simpa using hc
    have l1 : c0.length < LIM := by unfold LIM; omega
    by_cases hx : 1000000000000000000 ≤ x
    · have hs' : Deck (dk (c0 ++ [x / max 2 b]) m (t + 1) rest) rest := ⟨⟨c0 ++ [x / max 2 b], m, t + 1, rfl, by simpa using hc0⟩, hr⟩
      have hm : (if 2 < b then b else 2) = max 2 b := by omega
      have hm0 : 0 < max 2 b := by omega
      have hm1 : max 2 b < 1073741824 := by omega
      refine ⟨x % b, dk (c0 ++ [x / max 2 b]) m (t + 1) rest, call_dk (ex := []) (d := d34) (δ := [some (.loc 1), some (.int b), some (.int (m + 70207 * (t + 1))), some (.int x)]) hs0 hs' rfl rfl ?_ rfl, (hmod _).1, (hmod _).2, hs'⟩
      simp [d34, b34, sl, evSs, evS, evE, evEs, evI, evG, evGs, setAll, wipeD, isD_int, isD_bool, isD_str, isD_tup, kInt_non, kInt_bl, kInt_int, kInt_str, kInt_tup, kInt_lst, kBool_non, kBool_bl, kBool_int, kBool_str, kBool_tup, kBool_lst, kStr_non, kStr_bl, kStr_int, kStr_str, kStr_tup, kStr_lst, kTup_non, kTup_bl, kTup_int, kTup_str, kTup_tup, kTup_lst, atI_0, atI_1, atI_2, atI_3, cop, bop, b1D, b2D, ixD, seq_eq, seqX_tup, seqX_lst, seqX_scr, derL_eq, lstX_lst, der_loc, derLoc_lst, derLoc_dct, der_non, der_bl, der_int, der_str, der_tup, der_lst, der_scr, methD, mkL, D.isNon, D.isBl, oint, E.isSkip, slD, revD, dgetD, isLstS, truD, ints?, bls?, der_lotD, der_partD, der_thrD, der_mD, der_prD, seq_lotD, seq_partD, seq_thrD, dk, lk_cells, lk_mixed, lk_turn, pk_turn, dn0, lim0, p1, h0, hx, hm, hm0, hm1, l1]
    · have hs' : Deck (dk c0 m (t + 1) rest) rest := ⟨⟨c0, m, t + 1, rfl, by omega⟩, hr⟩
      refine ⟨g3 (m + 70207 * (t + 1) + x % 2147483549) (t + 1) / 64 % b, dk c0 m (t + 1) rest, call_dk (ex := []) (d := d34) (δ := [some (.loc 1), some (.int b), some (.int (g3 (m + 70207 * (t + 1) + x % 2147483549) (t + 1))), some (.int x)]) hs0 hs' rfl rfl ?_ rfl, (hmod _).1, (hmod _).2, hs'⟩
      simp [d34, b34, sl, evSs, evS, evE, evEs, evI, evG, evGs, setAll, wipeD, isD_int, isD_bool, isD_str, isD_tup, kInt_non, kInt_bl, kInt_int, kInt_str, kInt_tup, kInt_lst, kBool_non, kBool_bl, kBool_int, kBool_str, kBool_tup, kBool_lst, kStr_non, kStr_bl, kStr_int, kStr_str, kStr_tup, kStr_lst, kTup_non, kTup_bl, kTup_int, kTup_str, kTup_tup, kTup_lst, atI_0, atI_1, atI_2, atI_3, cop, bop, b1D, b2D, ixD, seq_eq, seqX_tup, seqX_lst, seqX_scr, derL_eq, lstX_lst, der_loc, derLoc_lst, derLoc_dct, der_non, der_bl, der_int, der_str, der_tup, der_lst, der_scr, methD, mkL, D.isNon, D.isBl, oint, E.isSkip, slD, revD, dgetD, isLstS, truD, ints?, bls?, der_lotD, der_partD, der_thrD, der_mD, der_prD, seq_lotD, seq_partD, seq_thrD, dk, lk_cells, lk_mixed, lk_turn, pk_turn, dn0, lim0, p1, p2, p3, p4, hq, h0, hx, l1, q1, q2, q3]
/-! ### 33, 35, 36 -/
theorem take_ints (ns : List Int) (h : ns.length ≤ 63) : cutD (ns.map D.int) none (some 63) = ns.map D.int := by
  have : (ns.map D.int).length ≤ 63 := by simpa using h
  unfold cutD
  have e1 : HT.sIx (ns.map D.int).length 0 none = 0 := rfl
  have e2 : HT.sIx (ns.map D.int).length (ns.map D.int).length (some 63) = (ns.map D.int).length := by
    have := HT.sIx_nat (ns.map D.int).length (ns.map D.int).length 63
    refine this.trans ?_
    omega
  rw [e1, e2, List.drop_zero, Nat.sub_zero, List.take_length]
def mixF (m : Int) (c : Int) : Int := (m * 43669 + c % 2147483587 + 59) % 2147483579
theorem f33_loop (k : Nat) (ok : Sto → Bool) (hok : ∀ s, ok s = true) (st : Sto) (e0 e1 : Option D) : ∀ (ns : List Int) (m : Int) (x : Option D), ∃ x', evFor (evG (.name 3)) (evSs (cf k) l33_0) ok (ns.map D.int) [e0, e1, some (.int m), x] st = some (.nx, [e0, e1, some (.int (ns.foldl mixF m)), x'], st)
  | [], m, x => ⟨x, by simp [evFor, hok]⟩
  | a :: ns, m, x => by
    obtain ⟨x', ih⟩ := f33_loop k ok hok st e0 e1 ns (mixF m a) (some (.int a))
    have p1 : P64 43669 = true := by decide +kernel
    refine ⟨x', ?_⟩
    rw [List.map_cons, evFor_cons (hok _) (δ1 := [e0, e1, some (.int m), some (.int a)]) (δ2 := [e0, e1, some (.int (mixF m a)), some (.int a)]) (st2 := st) (by simp [evG]) (by simp [l33_0, sl, evSs, evS, evE, evEs, evI, evG, evGs, setAll, wipeD, isD_int, isD_bool, isD_str, isD_tup, kInt_non, kInt_bl, kInt_int, kInt_str, kInt_tup, kInt_lst, kBool_non, kBool_bl, kBool_int, kBool_str, kBool_tup, kBool_lst, kStr_non, kStr_bl, kStr_int, kStr_str, kStr_tup, kStr_lst, kTup_non, kTup_bl, kTup_int, kTup_str, kTup_tup, kTup_lst, atI_0, atI_1, atI_2, atI_3, cop, bop, b1D, b2D, ixD, seq_eq, seqX_tup, seqX_lst, seqX_scr, derL_eq, lstX_lst, der_loc, derLoc_lst, derLoc_dct, der_non, der_bl, der_int, der_str, der_tup, der_lst, der_scr, methD, mkL, D.isNon, D.isBl, oint, E.isSkip, slD, revD, dgetD, isLstS, truD, ints?, bls?, der_lotD, der_partD, der_thrD, der_mD, der_prD, seq_lotD, seq_partD, seq_thrD, p1, mixF]), ih]
    rfl
theorem e_deck (k : Nat) (ns : List Int) (h : ns.length ≤ 63) (salt : Int) : ∃ m, evCall prg (k + 1) 33 [.scr (ns.map D.int), .int salt] [] = some (.loc 1, dk ns.reverse m 0 []) := by
  have lim : ns.length ≤ LIM := by unfold LIM; omega
  have tk := take_ints ns h
  have hsl : ∀ δ1 δ2 : Option D, evI (cf k) (.seq (.sl false (.var 0) .skip (.int 63))) [some (.scr (ns.map D.int)), some (.int salt), δ1, δ2] [] = some (⟨ns.map D.int, keeps (.lst (ns.map D.int)) (ns.map D.int)⟩, []) := fun δ1 δ2 => by
    simp [sl, evSs, evS, evE, evEs, evI, evG, evGs, setAll, wipeD, isD_int, isD_bool, isD_str, isD_tup, kInt_non, kInt_bl, kInt_int, kInt_str, kInt_tup, kInt_lst, kBool_non, kBool_bl, kBool_int, kBool_str, kBool_tup, kBool_lst, kStr_non, kStr_bl, kStr_int, kStr_str, kStr_tup, kStr_lst, kTup_non, kTup_bl, kTup_int, kTup_str, kTup_tup, kTup_lst, atI_0, atI_1, atI_2, atI_3, cop, bop, b1D, b2D, ixD, seq_eq, seqX_tup, seqX_lst, seqX_scr, derL_eq, lstX_lst, der_loc, derLoc_lst, derLoc_dct, der_non, der_bl, der_int, der_str, der_tup, der_lst, der_scr, methD, mkL, D.isNon, D.isBl, oint, E.isSkip, slD, revD, dgetD, isLstS, truD, ints?, bls?, der_lotD, der_partD, der_thrD, der_mD, der_prD, seq_lotD, seq_partD, seq_thrD, tk, lim]
  obtain ⟨x', f0⟩ := f33_loop k (keeps (.lst (ns.map D.int)) (ns.map D.int)) (fun _ => rfl) [] (some (.scr (ns.map D.int))) (some (.int salt)) ns (10894000 + salt) none
  have f : evS (cf k) f33_0 [some (.scr (ns.map D.int)), some (.int salt), some (.int (10894000 + salt)), none] [] = some (.nx, [some (.scr (ns.map D.int)), some (.int salt), some (.int (ns.foldl mixF (10894000 + salt))), x'], []) := evS_for (hsl _ _) f0
  have q : evE (cf k) q33_0 [some (.scr (ns.map D.int)), some (.int salt), some (.int (ns.foldl mixF (10894000 + salt))), x'] [] = some (.lst (ns.map D.int), []) :=
    evE_comp (hsl _ _) (evC_mapL D.int D.int rfl fun i _ => ⟨_, rfl, rfl, by simp [sl, evSs, evS, evE, evEs, evI, evG, evGs, setAll, wipeD, isD_int, isD_bool, isD_str, isD_tup, kInt_non, kInt_bl, kInt_int, kInt_str, kInt_tup, kInt_lst, kBool_non, kBool_bl, kBool_int, kBool_str, kBool_tup, kBool_lst, kStr_non, kStr_bl, kStr_int, kStr_str, kStr_tup, kStr_lst, kTup_non, kTup_bl, kTup_int, kTup_str, kTup_tup, kTup_lst, atI_0, atI_1, atI_2, atI_3, cop, bop, b1D, b2D, ixD, seq_eq, seqX_tup, seqX_lst, seqX_scr, derL_eq, lstX_lst, der_loc, derLoc_lst, derLoc_dct, der_non, der_bl, der_int, der_str, der_tup, der_lst, der_scr, methD, mkL, D.isNon, D.isBl, oint, E.isSkip, slD, revD, dgetD, isLstS, truD, ints?, bls?, der_lotD, der_partD, der_thrD, der_mD, der_prD, seq_lotD, seq_partD, seq_thrD]⟩) (mkL_ok (by simpa using lim))
  refine ⟨ns.foldl mixF (10894000 + salt), ?_⟩
  rw [call_unf k 33 d33 _ [] rfl rfl]
  have hb : evSs (cf k) d33.body [some (.scr (ns.map D.int)), some (.int salt), none, none] [] = some (.rt (.loc 1), [some (.scr (ns.map D.int)), some (.int salt), some (.int (ns.foldl mixF (10894000 + salt))), x'], dk ns.reverse (ns.foldl mixF (10894000 + salt)) 0 []) := by
    have nd : (["cells", "mixed", "turn"] : List PySem.Str).Nodup := by decide +kernel
    simp [d33, b33, sl, evSs, evS, evE, evEs, evI, evG, evGs, setAll, wipeD, isD_int, isD_bool, isD_str, isD_tup, kInt_non, kInt_bl, kInt_int, kInt_str, kInt_tup, kInt_lst, kBool_non, kBool_bl, kBool_int, kBool_str, kBool_tup, kBool_lst, kStr_non, kStr_bl, kStr_int, kStr_str, kStr_tup, kStr_lst, kTup_non, kTup_bl, kTup_int, kTup_str, kTup_tup, kTup_lst, atI_0, atI_1, atI_2, atI_3, cop, bop, b1D, b2D, ixD, seq_eq, seqX_tup, seqX_lst, seqX_scr, derL_eq, lstX_lst, der_loc, derLoc_lst, derLoc_dct, der_non, der_bl, der_int, der_str, der_tup, der_lst, der_scr, methD, mkL, D.isNon, D.isBl, oint, E.isSkip, slD, revD, dgetD, isLstS, truD, ints?, bls?, der_lotD, der_partD, der_thrD, der_mD, der_prD, seq_lotD, seq_partD, seq_thrD, f, q, lim, nd, dk, dkv]
  show (evSs (cf k) d33.body [some (.scr (ns.map D.int)), some (.int salt), none, none] []).bind _ = _
  rw [hb]
  rfl
theorem deck0 {ns : List Int} (h : ns.length ≤ 63) (m : Int) : Deck (dk ns.reverse m 0 []) [] := ⟨⟨ns.reverse, m, 0, rfl, by simp; omega⟩, rfl⟩
/-! ### drawn lists -/
theorem evC_deck {α : Type} {rest : Sto} {g : D → Ev.Env → Option Ev.Env} {c e : Ev.Env → Sto → Option (D × Sto)} {ok : Sto → Bool} {δ : Ev.Env} (enc : α → D) (P : D → Prop) (hok : ∀ s, ok s = true) : ∀ {xs : List α} {st : Sto}, Deck st rest → (∀ x ∈ xs, ∃ δ', g (enc x) δ = some δ' ∧ (∀ s, Deck s rest → ∃ (b : Bool) (s' : Sto), c δ' s = some (.bl b, s') ∧ Deck s' rest) ∧ (∀ s, Deck s rest → ∃ (y : D) (s' : Sto), e δ' s = some (y, s') ∧ P y ∧ Deck s' rest)) → ∃ (ys : List D) (st' : Sto), evC g c e ok δ (xs.map enc) st = some (ys, st') ∧ (∀ y ∈ ys, P y) ∧ ys.length ≤ xs.length ∧ Deck st' rest
  | [], st, hs, _ => ⟨[], st, by simp [evC, hok], by simp, by simp, hs⟩
  | x :: xs, st, hs, h => by
    obtain ⟨δ', h1, h2, h3⟩ := h x List.mem_cons_self
    obtain ⟨b, s1, e1, hs1⟩ := h2 st hs
    cases b with
    | true =>
      obtain ⟨y, s2, e2, hy, hs2⟩ := h3 s1 hs1
      obtain ⟨ys, st', e3, hP, hl, hs3⟩ := evC_deck (e := e) enc P hok hs2 fun z hz => h z (List.mem_cons_of_mem _ hz)
      refine ⟨y :: ys, st', by simp [evC, hok, h1, e1, e2, e3], ?_, by simp; omega, hs3⟩
      intro z hz
      rcases List.mem_cons.mp hz with rfl | hz
      · exact hy
      · exact hP z hz
    | false =>
      obtain ⟨ys, st', e3, hP, hl, hs3⟩ := evC_deck (e := e) enc P hok hs1 fun z hz => h z (List.mem_cons_of_mem _ hz)
      exact ⟨ys, st', by simp [evC, hok, h1, e1, e3], hP, by simp; omega, hs3⟩
theorem bel_pick {ds : List D} {d : D} (h : d ∈ ds) (hb : ∀ d ∈ ds, D.bel 0 d = true) : D.bel 0 d = true := hb d h
theorem e_pick (k : Nat) {st rest : Sto} (hs : Deck st rest) (ds : List D) (hne : ds ≠ []) (hl : ds.length ≤ 1000) (hb : ∀ d ∈ ds, D.bel 0 d = true) (x : D) (hx : x = .lst ds ∨ x = .tup ds) : ∃ (d : D) (st' : Sto), evCall prg (k + 2) 35 [.loc 1, x] st = some (d, st') ∧ d ∈ ds ∧ Deck st' rest := by
  have hpos : 0 < ds.length := List.length_pos_iff.mpr hne
  obtain ⟨r, st', e, r0, r1, hs'⟩ := e_draw k hs (ds.length : Int) (by omega) (by omega)
  have hr : r.toNat < ds.length := by omega
  have ha : L2.atI ds r = some ds[r.toNat] := by
    have := atI_nat ds r.toNat hr
    rw [show ((r.toNat : Nat) : Int) = r by omega, List.getElem?_eq_getElem hr] at this
    exact this
  have hm : ds[r.toNat] ∈ ds := List.getElem_mem hr
  refine ⟨ds[r.toNat], st', call_dk (ex := []) (d := d35) (δ := [some (.loc 1), some x]) hs hs' rfl rfl ?_ (hb _ hm), hm, hs'⟩
  generalize ds[r.toNat] = y at ha hm
  rcases hx with rfl | rfl <;> simp [d35, b35, sl, evSs, evS, evE, evEs, evI, evG, evGs, setAll, wipeD, isD_int, isD_bool, isD_str, isD_tup, kInt_non, kInt_bl, kInt_int, kInt_str, kInt_tup, kInt_lst, kBool_non, kBool_bl, kBool_int, kBool_str, kBool_tup, kBool_lst, kStr_non, kStr_bl, kStr_int, kStr_str, kStr_tup, kStr_lst, kTup_non, kTup_bl, kTup_int, kTup_str, kTup_tup, kTup_lst, atI_0, atI_1, atI_2, atI_3, cop, bop, b1D, b2D, ixD, seq_eq, seqX_tup, seqX_lst, seqX_scr, derL_eq, lstX_lst, der_loc, derLoc_lst, derLoc_dct, der_non, der_bl, der_int, der_str, der_tup, der_lst, der_scr, methD, mkL, D.isNon, D.isBl, oint, E.isSkip, slD, revD, dgetD, isLstS, truD, ints?, bls?, der_lotD, der_partD, der_thrD, der_mD, der_prD, seq_lotD, seq_partD, seq_thrD, e, ha]
end K82
set_option Elab.async false
set_option linter.all false
set_option maxRecDepth 100000
set_option maxHeartbeats 4000000
namespace K82
open PySem Ev
/-! ### drawn lists -/
inductive Rel2 {α β : Type} (P : α → β → Prop) : List α → List β → Prop where
  | nil : Rel2 P [] []
  | cons {x : α} {y : β} {xs : List α} {ys : List β} : P x y → Rel2 P xs ys → Rel2 P (x :: xs) (y :: ys)
theorem evC_rel {α β : Type} {rest : Sto} {g : D → Ev.Env → Option Ev.Env} {c e : Ev.Env → Sto → Option (D × Sto)} {ok : Sto → Bool} {δ : Ev.Env} (enc : α → D) (dec : β → D) (P : α → β → Prop) (hok : ∀ s, Deck s rest → ok s = true) : ∀ {xs : List α} {st : Sto}, Deck st rest → (∀ x ∈ xs, ∃ δ', g (enc x) δ = some δ' ∧ (∀ s, c δ' s = some (.bl true, s)) ∧ (∀ s, Deck s rest → ∃ (y : β) (s' : Sto), e δ' s = some (dec y, s') ∧ P x y ∧ Deck s' rest)) → ∃ (ys : List β) (st' : Sto), evC g c e ok δ (xs.map enc) st = some (ys.map dec, st') ∧ Rel2 P xs ys ∧ Deck st' rest
  | [], st, hs, _ => ⟨[], st, by simp [evC, hok st hs], .nil, hs⟩
  | x :: xs, st, hs, h => by
    obtain ⟨δ', h1, h2, h3⟩ := h x List.mem_cons_self
    obtain ⟨y, s2, e2, hy, hs2⟩ := h3 st hs
    obtain ⟨ys, st', e3, hP, hs3⟩ := evC_rel (e := e) enc dec P hok hs2 fun z hz => h z (List.mem_cons_of_mem _ hz)
    exact ⟨y :: ys, st', by simp [evC, hok st hs, h1, h2, e2, e3], .cons hy hP, hs3⟩
theorem evC_sub {α : Type} {rest : Sto} {g : D → Ev.Env → Option Ev.Env} {c e : Ev.Env → Sto → Option (D × Sto)} {ok : Sto → Bool} {δ : Ev.Env} (enc f : α → D) (hok : ∀ s, Deck s rest → ok s = true) : ∀ {xs : List α} {st : Sto}, Deck st rest → (∀ x ∈ xs, ∃ δ', g (enc x) δ = some δ' ∧ (∀ s, Deck s rest → ∃ (b : Bool) (s' : Sto), c δ' s = some (.bl b, s') ∧ Deck s' rest) ∧ (∀ s, e δ' s = some (f x, s))) → ∃ (ys : List α) (st' : Sto), evC g c e ok δ (xs.map enc) st = some (ys.map f, st') ∧ ys.Sublist xs ∧ Deck st' rest
  | [], st, hs, _ => ⟨[], st, by simp [evC, hok st hs], List.Sublist.slnil, hs⟩
  | x :: xs, st, hs, h => by
    obtain ⟨δ', h1, h2, h3⟩ := h x List.mem_cons_self
    obtain ⟨b, s1, e1, hs1⟩ := h2 st hs
    obtain ⟨ys, st', e3, hP, hs3⟩ := evC_sub (e := e) enc f hok hs1 fun z hz => h z (List.mem_cons_of_mem _ hz)
    cases b with
    | true => exact ⟨x :: ys, st', by simp [evC, hok st hs, h1, e1, h3, e3], hP.cons_cons _, hs3⟩
    | false => exact ⟨ys, st', by simp [evC, hok st hs, h1, e1, e3], hP.cons _, hs3⟩
theorem forall2_len {α β : Type} {P : α → β → Prop} : ∀ {xs : List α} {ys : List β}, Rel2 P xs ys → xs.length = ys.length
  | _, _, .nil => rfl
  | _, _, .cons _ h => by simp [forall2_len h]
theorem forall2_right {α β : Type} {P : α → β → Prop} {Q : β → Prop} (hq : ∀ x y, P x y → Q y) : ∀ {xs : List α} {ys : List β}, Rel2 P xs ys → ∀ y ∈ ys, Q y
  | _, _, .nil, y, h => by cases h
  | _, _, .cons h1 h, y, hy => by
    rcases List.mem_cons.mp hy with rfl | hy
    · exact hq _ _ h1
    · exact forall2_right hq h y hy
/-! ### 36 -/
theorem e_some (k : Nat) {st rest : Sto} (hs : Deck st rest) (ds : List D) (hl : ds.length ≤ 1000) (hb : ∀ d ∈ ds, D.bel 0 d = true) : ∃ (ys : List D) (st' : Sto), evCall prg (k + 3) 36 [.loc 1, .lst ds, .int 3] st = some (.lst ys, st') ∧ (∀ y ∈ ys, y ∈ ds) ∧ Deck st' rest := by
  have lim : ds.length ≤ LIM := by unfold LIM; omega
  by_cases h3 : ds.length ≤ 3
  · refine ⟨ds, st, call_dk (ex := []) (d := d36) (δ := [some (.loc 1), some (.lst ds), some (.int 3), none]) hs hs rfl rfl ?_ (bels_all hb), fun y hy => hy, hs⟩
    have h3' : (ds.length : Int) ≤ 3 := by omega
    simp [d36, b36, sl, evSs, evS, evE, evEs, evI, evG, evGs, setAll, wipeD, isD_int, isD_bool, isD_str, isD_tup, kInt_non, kInt_bl, kInt_int, kInt_str, kInt_tup, kInt_lst, kBool_non, kBool_bl, kBool_int, kBool_str, kBool_tup, kBool_lst, kStr_non, kStr_bl, kStr_int, kStr_str, kStr_tup, kStr_lst, kTup_non, kTup_bl, kTup_int, kTup_str, kTup_tup, kTup_lst, atI_0, atI_1, atI_2, atI_3, cop, bop, b1D, b2D, ixD, seq_eq, seqX_tup, seqX_lst, seqX_scr, derL_eq, lstX_lst, der_loc, derLoc_lst, derLoc_dct, der_non, der_bl, der_int, der_str, der_tup, der_lst, der_scr, methD, mkL, D.isNon, D.isBl, oint, E.isSkip, slD, revD, dgetD, isLstS, truD, ints?, bls?, der_lotD, der_partD, der_thrD, der_mD, der_prD, seq_lotD, seq_partD, seq_thrD, h3', lim]
  · have hne : ds ≠ [] := by rintro rfl; simp at h3
    obtain ⟨ys, st', ec, hP, hs'⟩ := evC_rel (rest := rest) (g := evG (.name 3)) (c := evE (cf (k + 2)) (.bl true)) (e := evE (cf (k + 2)) (.call 35 (.cons (.var 0) (.cons (.var 1) .nil)))) (ok := fun _ => true) (δ := [some (.loc 1), some (.lst ds), some (.int 3), none]) D.int (fun d => d) (fun _ y => y ∈ ds) (fun _ _ => rfl) (xs := rgI 3) hs fun x _ => ⟨[some (.loc 1), some (.lst ds), some (.int 3), some (.int x)], by simp [evG], fun s => rfl, fun s hs => by
      obtain ⟨d, s', e, hd, hs'⟩ := e_pick k hs ds hne hl hb (.lst ds) (.inl rfl)
      exact ⟨d, s', by simp [sl, evSs, evS, evE, evEs, evI, evG, evGs, setAll, wipeD, isD_int, isD_bool, isD_str, isD_tup, kInt_non, kInt_bl, kInt_int, kInt_str, kInt_tup, kInt_lst, kBool_non, kBool_bl, kBool_int, kBool_str, kBool_tup, kBool_lst, kStr_non, kStr_bl, kStr_int, kStr_str, kStr_tup, kStr_lst, kTup_non, kTup_bl, kTup_int, kTup_str, kTup_tup, kTup_lst, atI_0, atI_1, atI_2, atI_3, cop, bop, b1D, b2D, ixD, seq_eq, seqX_tup, seqX_lst, seqX_scr, derL_eq, lstX_lst, der_loc, derLoc_lst, derLoc_dct, der_non, der_bl, der_int, der_str, der_tup, der_lst, der_scr, methD, mkL, D.isNon, D.isBl, oint, E.isSkip, slD, revD, dgetD, isLstS, truD, ints?, bls?, der_lotD, der_partD, der_thrD, der_mD, der_prD, seq_lotD, seq_partD, seq_thrD, e], hd, hs'⟩⟩
    have hy : ∀ y ∈ ys, y ∈ ds := forall2_right (Q := fun y => y ∈ ds) (fun _ _ h => h) hP
    have hyl : ys.length ≤ LIM := by
      have := forall2_len hP
      simp [rgI] at this
      unfold LIM; omega
    rw [List.map_id'] at ec
    have q : evE (cf (k + 2)) q36_0 [some (.loc 1), some (.lst ds), some (.int 3), none] st = some (.lst ys, st') := by
      refine evE_comp (st1 := st) (w := ⟨(rgI 3).map D.int, fun _ => true⟩) ?_ ec (mkL_ok hyl)
      have h : (3 : Int) ≤ (LIM : Int) ∧ -(LIM : Int) ≤ 3 := by unfold LIM; omega
      simp [sl, evSs, evS, evE, evEs, evI, evG, evGs, setAll, wipeD, isD_int, isD_bool, isD_str, isD_tup, kInt_non, kInt_bl, kInt_int, kInt_str, kInt_tup, kInt_lst, kBool_non, kBool_bl, kBool_int, kBool_str, kBool_tup, kBool_lst, kStr_non, kStr_bl, kStr_int, kStr_str, kStr_tup, kStr_lst, kTup_non, kTup_bl, kTup_int, kTup_str, kTup_tup, kTup_lst, atI_0, atI_1, atI_2, atI_3, cop, bop, b1D, b2D, ixD, seq_eq, seqX_tup, seqX_lst, seqX_scr, derL_eq, lstX_lst, der_loc, derLoc_lst, derLoc_dct, der_non, der_bl, der_int, der_str, der_tup, der_lst, der_scr, methD, mkL, D.isNon, D.isBl, oint, E.isSkip, slD, revD, dgetD, isLstS, truD, ints?, bls?, der_lotD, der_partD, der_thrD, der_mD, der_prD, seq_lotD, seq_partD, seq_thrD, h, rngD, rgI]
    refine ⟨ys, st', call_dk (ex := []) (d := d36) (δ := [some (.loc 1), some (.lst ds), some (.int 3), none]) hs hs' rfl rfl ?_ (bels_all fun d hd => hb d (hy d hd)), hy, hs'⟩
    have h3' : ¬ (ds.length : Int) ≤ 3 := by omega
    simp [d36, b36, sl, evSs, evS, evE, evEs, evI, evG, evGs, setAll, wipeD, isD_int, isD_bool, isD_str, isD_tup, kInt_non, kInt_bl, kInt_int, kInt_str, kInt_tup, kInt_lst, kBool_non, kBool_bl, kBool_int, kBool_str, kBool_tup, kBool_lst, kStr_non, kStr_bl, kStr_int, kStr_str, kStr_tup, kStr_lst, kTup_non, kTup_bl, kTup_int, kTup_str, kTup_tup, kTup_lst, atI_0, atI_1, atI_2, atI_3, cop, bop, b1D, b2D, ixD, seq_eq, seqX_tup, seqX_lst, seqX_scr, derL_eq, lstX_lst, der_loc, derLoc_lst, derLoc_dct, der_non, der_bl, der_int, der_str, der_tup, der_lst, der_scr, methD, mkL, D.isNon, D.isBl, oint, E.isSkip, slD, revD, dgetD, isLstS, truD, ints?, bls?, der_lotD, der_partD, der_thrD, der_mD, der_prD, seq_lotD, seq_partD, seq_thrD, h3', q]
end K82
set_option Elab.async false
set_option linter.all false
set_option maxRecDepth 100000
set_option maxHeartbeats 4000000
namespace K82
open PySem Ev
/-! ### 46 -/
theorem deq_duo (x y : Int × Int) : deq (duo x) (duo y) = some (decide (x = y)) := by
  rw [deq_pl (by rfl) (by rfl)]
  congr 1
  show (x.1 == y.1 && (x.2 == y.2 && true)) = _
  rw [Bool.eq_iff_iff]
  simp [Prod.ext_iff]
theorem inD_duos (x : Int × Int) : ∀ us : List (Int × Int), inD (duo x) (us.map duo) = some (decide (x ∈ us))
  | [] => rfl
  | y :: us => by
    show (match deq (duo y) (duo x), inD (duo x) (us.map duo) with
      | some b, some c => some (b || c)
      | _, _ => none) = _
    rw [deq_duo, inD_duos x us]
    show some (decide (y = x) || decide (x ∈ us)) = _
    congr 1
    rw [Bool.eq_iff_iff]
    simp only [Bool.or_eq_true, decide_eq_true_iff, List.mem_cons]
    exact ⟨fun h => h.elim (fun e => .inl e.symm) .inr, fun h => h.elim (fun e => .inl e.symm) .inr⟩
theorem sub_map {α : Type} {f : α → D} {l : List α} : ∀ {ys : List D}, (∀ y ∈ ys, y ∈ l.map f) → ∃ xs : List α, ys = xs.map f ∧ ∀ x ∈ xs, x ∈ l
  | [], _ => ⟨[], rfl, by simp⟩
  | y :: ys, h => by
    obtain ⟨x, hx, rfl⟩ := List.mem_map.mp (h y List.mem_cons_self)
    obtain ⟨xs, rfl, h2⟩ := sub_map fun z hz => h z (List.mem_cons_of_mem _ hz)
    refine ⟨x :: xs, rfl, ?_⟩
    intro z hz
    rcases List.mem_cons.mp hz with rfl | hz
    · exact hx
    · exact h2 z hz
theorem mem_unlike {n : Nat} {p q : Pr} {x : Int × Int} (hx : x ∈ prsL n (rgI n)) : decide (x ∈ unlikeL n p q) = diffB p q x := by
  unfold unlikeL
  rw [Bool.eq_iff_iff, decide_eq_true_iff, List.mem_filter]
  exact ⟨fun h => h.2, fun h => ⟨hx, h⟩⟩
theorem f46_loop {n : Nat} (hn : n ≤ 8) (h1 : 1 ≤ n) (k : Nat) {p q : Pr} (gp : GP n p) (gq : GP n q) (ok : Sto → Bool) (hok : ∀ s, ok s = true) (st : Sto) (e0 e4 e6 : Option D) : ∀ (xs : List (Int × Int)) (a b c : Option D), (∀ x ∈ xs, x ∈ prsL n (rgI n)) →
    ∃ a' b' c', evFor (evG (.tup [.name 7, .name 8])) (evSs (cf (k + 13)) l46_0) ok (xs.map duo) [e0, some (.int n), some (prD p), some (prD q), e4, some (.lst ((unlikeL n p q).map duo)), e6, a, b, c] st = some (.nx, [e0, some (.int n), some (prD p), some (prD q), e4, some (.lst ((unlikeL n p q).map duo)), e6, a', b', c'], st)
  | [], a, b, c, _ => ⟨a, b, c, by simp [evFor, hok]⟩
  | x :: xs, a, b, c, h => by
    have hx := h x List.mem_cons_self
    obtain ⟨x1, x2⟩ := prsL_mem.mp hx
    obtain ⟨a', b', c', ih⟩ := f46_loop hn h1 k gp gq ok hok st e0 e4 e6 xs (some (.int x.1)) (some (.int x.2)) (some (.bl (diffB p q x))) fun z hz => h z (List.mem_cons_of_mem _ hz)
    refine ⟨a', b', c', ?_⟩
    rw [List.map_cons, evFor_cons (hok _) (δ1 := [e0, some (.int n), some (prD p), some (prD q), e4, some (.lst ((unlikeL n p q).map duo)), e6, some (.int x.1), some (.int x.2), c]) (δ2 := [e0, some (.int n), some (prD p), some (prD q), e4, some (.lst ((unlikeL n p q).map duo)), e6, some (.int x.1), some (.int x.2), some (.bl (diffB p q x))]) (st2 := st) (by simp [evG, evGs, duo]) ?_]
    · exact ih
    · have e := e_holds_un hn h1 (k + 1) gp gq x1 x2 st
      rw [show k + 1 + 12 = k + 13 by omega] at e
      have e : evCall prg (k + 13) 27 [.int n, prD p, prD q, .tup [.str "unlike", .int x.1, .int x.2]] st = some (.bl (diffB p q x), st) := e
      have i := inD_duos x (unlikeL n p q)
      rw [mem_unlike hx] at i
      have i : inD (.tup [.int x.1, .int x.2]) ((unlikeL n p q).map duo) = some (diffB p q x) := i
      have s := same_bl (k + 12) (diffB p q x) (diffB p q x) st
      generalize (unlikeL n p q).map duo = us at i ⊢
      generalize diffB p q x = bb at e i s ⊢
      simp [l46_0, sl, evSs, evS, evE, evEs, evI, evG, evGs, setAll, wipeD, isD_int, isD_bool, isD_str, isD_tup, kInt_non, kInt_bl, kInt_int, kInt_str, kInt_tup, kInt_lst, kBool_non, kBool_bl, kBool_int, kBool_str, kBool_tup, kBool_lst, kStr_non, kStr_bl, kStr_int, kStr_str, kStr_tup, kStr_lst, kTup_non, kTup_bl, kTup_int, kTup_str, kTup_tup, kTup_lst, atI_0, atI_1, atI_2, atI_3, cop, bop, b1D, b2D, ixD, seq_eq, seqX_tup, seqX_lst, seqX_scr, derL_eq, lstX_lst, der_loc, derLoc_lst, derLoc_dct, der_non, der_bl, der_int, der_str, der_tup, der_lst, der_scr, methD, mkL, D.isNon, D.isBl, oint, E.isSkip, slD, revD, dgetD, isLstS, truD, ints?, bls?, der_lotD, der_partD, der_thrD, der_mD, der_prD, seq_lotD, seq_partD, seq_thrD, e, i, s]
theorem unlike_comm (n : Nat) (p q : Pr) : unlikeL n p q = unlikeL n q p := by
  unfold unlikeL
  rw [diffB_comm]
theorem e_holds {n : Nat} (hn : n ≤ 8) (h1 : 1 ≤ n) (k : Nat) {p q : Pr} (gp : GP n p) (gq : GP n q) (st : Sto) : evCall prg (k + 13) 27 [.int n, prD q, prD p, judgeD n p q] st = some (.bl true, st) := by
  unfold judgeD
  cases hj : judgeF n p q with
  | none =>
    have e := e_holds_al hn h1 k gq gp st
    have : judgeF n q p = none := by
      rw [judge_none, unlike_comm]
      exact judge_none.mp hj
    rw [this] at e
    exact e
  | some x =>
    have hx := judge_some hj
    rw [unlike_comm] at hx
    obtain ⟨h2, h3⟩ := List.mem_filter.mp hx
    obtain ⟨x1, x2⟩ := prsL_mem.mp h2
    have e := e_holds_un hn h1 (k + 1) gq gp x1 x2 st
    rw [show k + 1 + 12 = k + 13 by omega] at e
    have h4 : diffB q p (x.1, x.2) = true := h3
    rw [h4] at e
    exact e
theorem e_judged {n : Nat} (hn : n ≤ 8) (h1 : 1 ≤ n) (k : Nat) {p q : Pr} (gp : GP n p) (gq : GP n q) (nm : Bool) {st rest : Sto} (hs : Deck st rest) : ∃ st' : Sto, evCall prg (k + 14) 46 [.loc 1, .int n, prD p, prD q, .bl nm] st = some (.bl true, st') ∧ Deck st' rest := by
  have hlen : ((prsL n (rgI n)).map duo).length ≤ 1000 := by
    have h2 := prsL_len n (rgI n)
    have h3 : (rgI n).length = n := by simp [rgI]
    have h4 : n * n ≤ 8 * 8 := Nat.mul_le_mul hn hn
    rw [h3] at h2
    rw [List.length_map]
    omega
  obtain ⟨ys, st', es, hys, hs'⟩ := e_some (k + 10) hs ((prsL n (rgI n)).map duo) hlen fun d hd => by
    obtain ⟨x, _, rfl⟩ := List.mem_map.mp hd
    rfl
  obtain ⟨xs, rfl, hxs⟩ := sub_map hys
  have e44 := e_unlike hn (k + 4) gp gq st
  have e26 := e_judge hn h1 (k + 1) gp gq st
  have e27 := e_holds hn h1 k gp gq st
  have e43 := e_pairs hn (k + 12) st
  have e45 := e_told hn (k + 10) p q (unlikeL n p q) rfl st
  have e26b := e_judge hn h1 (k + 1) gq gp st'
  have e45b := e_told hn (k + 10) q p (unlikeL n p q) (unlike_comm n p q) st'
  rw [show k + 4 + 9 = k + 13 by omega] at e44
  rw [show k + 1 + 12 = k + 13 by omega] at e26 e26b
  rw [show k + 12 + 1 = k + 13 by omega] at e43
  rw [show k + 10 + 3 = k + 13 by omega] at e45 e45b es
  obtain ⟨a', b', c', lp⟩ := f46_loop hn h1 k gp gq (keeps (.lst (xs.map duo)) (xs.map duo)) (fun _ => rfl) st' (some (.loc 1)) (some (.bl nm)) (some (judgeD n p q)) xs none none none hxs
  have f : evS (cf (k + 13)) f46_0 [some (.loc 1), some (.int n), some (prD p), some (prD q), some (.bl nm), some (.lst ((unlikeL n p q).map duo)), some (judgeD n p q), none, none, none] st = some (.nx, [some (.loc 1), some (.int n), some (prD p), some (prD q), some (.bl nm), some (.lst ((unlikeL n p q).map duo)), some (judgeD n p q), a', b', c'], st') := by
    refine evS_for (st1 := st') (w := ⟨xs.map duo, keeps (.lst (xs.map duo)) (xs.map duo)⟩) ?_ lp
    generalize (prsL n (rgI n)).map duo = us at e43 es
    generalize xs.map duo = zs at es
    simp [sl, evSs, evS, evE, evEs, evI, evG, evGs, setAll, wipeD, isD_int, isD_bool, isD_str, isD_tup, kInt_non, kInt_bl, kInt_int, kInt_str, kInt_tup, kInt_lst, kBool_non, kBool_bl, kBool_int, kBool_str, kBool_tup, kBool_lst, kStr_non, kStr_bl, kStr_int, kStr_str, kStr_tup, kStr_lst, kTup_non, kTup_bl, kTup_int, kTup_str, kTup_tup, kTup_lst, atI_0, atI_1, atI_2, atI_3, cop, bop, b1D, b2D, ixD, seq_eq, seqX_tup, seqX_lst, seqX_scr, derL_eq, lstX_lst, der_loc, derLoc_lst, derLoc_dct, der_non, der_bl, der_int, der_str, der_tup, der_lst, der_scr, methD, mkL, D.isNon, D.isBl, oint, E.isSkip, slD, revD, dgetD, isLstS, truD, ints?, bls?, der_lotD, der_partD, der_thrD, der_mD, der_prD, seq_lotD, seq_partD, seq_thrD, e43, es]
  refine ⟨st', call_dk (ex := []) (d := d46) (δ := [some (.loc 1), some (.int n), some (prD p), some (prD q), some (.bl nm), some (.lst ((unlikeL n p q).map duo)), some (judgeD n p q), a', b', c']) hs hs' rfl rfl ?_ rfl, hs'⟩
  generalize (unlikeL n p q).map duo = us at e44 e45 e45b f ⊢
  cases nm <;> simp [d46, b46, sl, evSs, evS, evE, evEs, evI, evG, evGs, setAll, wipeD, isD_int, isD_bool, isD_str, isD_tup, kInt_non, kInt_bl, kInt_int, kInt_str, kInt_tup, kInt_lst, kBool_non, kBool_bl, kBool_int, kBool_str, kBool_tup, kBool_lst, kStr_non, kStr_bl, kStr_int, kStr_str, kStr_tup, kStr_lst, kTup_non, kTup_bl, kTup_int, kTup_str, kTup_tup, kTup_lst, atI_0, atI_1, atI_2, atI_3, cop, bop, b1D, b2D, ixD, seq_eq, seqX_tup, seqX_lst, seqX_scr, derL_eq, lstX_lst, der_loc, derLoc_lst, derLoc_dct, der_non, der_bl, der_int, der_str, der_tup, der_lst, der_scr, methD, mkL, D.isNon, D.isBl, oint, E.isSkip, slD, revD, dgetD, isLstS, truD, ints?, bls?, der_lotD, der_partD, der_thrD, der_mD, der_prD, seq_lotD, seq_partD, seq_thrD, e44, e26, e45, e27, f, e26b, e45b]
end K82
set_option Elab.async false
set_option linter.all false
set_option maxRecDepth 100000
set_option maxHeartbeats 4000000
namespace K82
open PySem Ev
/-! ### 38 -/
def lo (l : List Int) : SO := .lst (l.map D.int)
def lotsO (r : Nat) (ix : List Nat) : SO := .lst (ix.map fun j => .loc (r + 3 + j))
def tst (rest : Sto) (ix : List Nat) (L : List (List Int)) : Sto := rest ++ lotsO rest.length ix :: L.map lo
theorem dk_tst (c : List Int) (m t : Int) (rest : Sto) (ix : List Nat) (L : List (List Int)) : dk c m t (tst rest ix L) = dk c m t rest ++ lotsO rest.length ix :: L.map lo := rfl
theorem dk_len (c : List Int) (m t : Int) (rest : Sto) : (dk c m t rest).length = rest.length + 2 := by simp [dk]
theorem dk_lots (c : List Int) (m t : Int) (rest : Sto) (ix : List Nat) (L : List (List Int)) : (dk c m t (tst rest ix L))[rest.length + 2]? = some (lotsO rest.length ix) := by
  rw [dk_tst, ← dk_len c m t rest, List.getElem?_append_right (Nat.le_refl _), Nat.sub_self]
  rfl
theorem dk_lot (c : List Int) (m t : Int) (rest : Sto) (ix : List Nat) (L : List (List Int)) (j : Nat) (l : List Int) (h : L[j]? = some l) : (dk c m t (tst rest ix L))[rest.length + 3 + j]? = some (lo l) := by
  rw [dk_tst, List.getElem?_append_right (by rw [dk_len]; omega), dk_len, show rest.length + 3 + j - (rest.length + 2) = j + 1 by omega, List.getElem?_cons_succ, List.getElem?_map, h]
  rfl
theorem dk_set_lots (c : List Int) (m t : Int) (rest : Sto) (ix ix' : List Nat) (L : List (List Int)) : (dk c m t (tst rest ix L)).set (rest.length + 2) (lotsO rest.length ix') = dk c m t (tst rest ix' L) := by
  rw [dk_tst, dk_tst, ← dk_len c m t rest, List.set_append_right _ _ (Nat.le_refl _), Nat.sub_self]
  rfl
theorem dk_set_lot (c : List Int) (m t : Int) (rest : Sto) (ix : List Nat) (L : List (List Int)) (j : Nat) (l : List Int) : (dk c m t (tst rest ix L)).set (rest.length + 3 + j) (lo l) = dk c m t (tst rest ix (L.set j l)) := by
  rw [dk_tst, dk_tst, List.set_append_right _ _ (by rw [dk_len]; omega), dk_len, show rest.length + 3 + j - (rest.length + 2) = j + 1 by omega, List.set_cons_succ, List.map_set]
theorem dk_new (c : List Int) (m t : Int) (rest : Sto) (ix : List Nat) (L : List (List Int)) (l : List Int) : dk c m t (tst rest ix L) ++ [lo l] = dk c m t (tst rest ix (L ++ [l])) := by
  rw [dk_tst, dk_tst, List.map_append, List.append_assoc]
  rfl
theorem tst_len (rest : Sto) (ix : List Nat) (L : List (List Int)) : (tst rest ix L).length = rest.length + 1 + L.length := by
  unfold tst
  rw [List.length_append, List.length_cons, List.length_map]
  omega
theorem so_mono {n m : Nat} (h : n ≤ m) {o : SO} (e : SO.bel n o = true) : SO.bel m o = true := by
  cases o with
  | lst xs => exact bels_mono h xs e
  | dct kv => exact bels_mono h (kv.map Prod.snd) e
theorem tst_ok {rest : Sto} (hr : rest.all (SO.bel (rest.length + 2)) = true) (ix : List Nat) (L : List (List Int)) (h : ∀ j ∈ ix, j < L.length) : (tst rest ix L).all (SO.bel ((tst rest ix L).length + 2)) = true := by
  rw [tst_len, List.all_eq_true]
  intro o ho
  unfold tst at ho
  rcases List.mem_append.mp ho with ho | ho
  · exact so_mono (by omega) (List.all_eq_true.mp hr o ho)
  · rcases List.mem_cons.mp ho with rfl | ho
    · refine bels_all fun d hd => ?_
      obtain ⟨j, hj, rfl⟩ := List.mem_map.mp hd
      have := h j hj
      exact decide_eq_true (by omega)
    · obtain ⟨l, _, rfl⟩ := List.mem_map.mp ho
      exact bel_cells _ l
theorem deck_tst {st rest : Sto} {ix : List Nat} {L : List (List Int)} (h : Deck st (tst rest ix L)) (hr : rest.all (SO.bel (rest.length + 2)) = true) : ∃ st0, Deck st0 rest ∧ st = st0 ++ lotsO rest.length ix :: L.map lo := by
  obtain ⟨⟨c, m, t, rfl, hc⟩, _⟩ := h
  exact ⟨dk c m t rest, ⟨⟨c, m, t, rfl, hc⟩, hr⟩, rfl⟩
structure TInv (i : Nat) (ix : List Nat) (L : List (List Int)) : Prop where
  perm : ix.Perm (List.range L.length)
  lot : ∀ l ∈ L, l ≠ [] ∧ l.Pairwise (· < ·) ∧ ∀ k ∈ l, 0 ≤ k ∧ k < (i : Int)
  flat : L.flatten.Perm (rgI i)
theorem TInv.len {i : Nat} {ix : List Nat} {L : List (List Int)} (h : TInv i ix L) : ix.length = L.length := by
  have := h.perm.length_eq
  rwa [List.length_range] at this
theorem TInv.lt {i : Nat} {ix : List Nat} {L : List (List Int)} (h : TInv i ix L) : ∀ j ∈ ix, j < L.length := fun j hj => List.mem_range.mp (h.perm.subset hj)
theorem rgI_succ (i : Nat) : rgI (i + 1) = rgI i ++ [(i : Int)] := by
  unfold rgI
  rw [List.range_succ, List.map_append]
  rfl
theorem tinv_new {i : Nat} {ix : List Nat} {L : List (List Int)} (h : TInv i ix L) (p : Nat) : TInv (i + 1) (ix.take p ++ [L.length] ++ ix.drop p) (L ++ [[(i : Int)]]) where
  perm := by
    rw [List.length_append, List.length_singleton, List.range_succ]
    have h1 : (ix.take p ++ [L.length] ++ ix.drop p).Perm (ix.take p ++ (ix.drop p ++ [L.length])) := by
      rw [List.append_assoc]
      exact List.Perm.append_left _ List.perm_append_comm
    rw [← List.append_assoc, List.take_append_drop] at h1
    exact h1.trans (h.perm.append_right _)
  lot := by
    intro l hl
    rcases List.mem_append.mp hl with hl | hl
    · obtain ⟨a, b, c⟩ := h.lot l hl
      exact ⟨a, b, fun k hk => ⟨(c k hk).1, by have := (c k hk).2; omega⟩⟩
    · rw [List.mem_singleton.mp hl]
      exact ⟨by simp, by simp, by simp; omega⟩
  flat := by
    rw [List.flatten_append, rgI_succ]
    exact h.flat.append_right _
theorem flatten_set (x : Int) : ∀ (L : List (List Int)) (j : Nat) (l : List Int), L[j]? = some l → (L.set j (l ++ [x])).flatten.Perm (L.flatten ++ [x])
  | [], j, l, h => by simp at h
  | y :: L, 0, l, h => by
    obtain rfl : y = l := by simpa using h
    rw [List.set_cons_zero, List.flatten_cons, List.flatten_cons, List.append_assoc, List.append_assoc]
    exact List.Perm.append_left _ List.perm_append_comm
  | y :: L, j + 1, l, h => by
    rw [List.set_cons_succ, List.flatten_cons, List.flatten_cons, List.append_assoc]
    exact List.Perm.append_left _ (flatten_set x L j l (by simpa using h))
theorem tinv_put {i : Nat} {ix : List Nat} {L : List (List Int)} (h : TInv i ix L) {j : Nat} {l : List Int} (hj : L[j]? = some l) : TInv (i + 1) ix (L.set j (l ++ [(i : Int)])) where
  perm := by rw [List.length_set]; exact h.perm
  lot := by
    intro z hz
    rcases List.mem_or_eq_of_mem_set hz with hz | rfl
    · obtain ⟨a, b, c⟩ := h.lot z hz
      exact ⟨a, b, fun k hk => ⟨(c k hk).1, by have := (c k hk).2; omega⟩⟩
    · obtain ⟨a, b, c⟩ := h.lot l (List.mem_of_getElem? hj)
      refine ⟨by simp, ?_, ?_⟩
      · rw [List.pairwise_append]
        refine ⟨b, by simp, ?_⟩
        intro u hu v hv
        rw [List.mem_singleton.mp hv]
        exact (c u hu).2
      · intro k hk
        rcases List.mem_append.mp hk with hk | hk
        · exact ⟨(c k hk).1, by have := (c k hk).2; omega⟩
        · rw [List.mem_singleton.mp hk]; omega
  flat := by
    rw [rgI_succ]
    exact (flatten_set _ L j l hj).trans (h.flat.append_right _)
end K82
set_option Elab.async false
set_option linter.all false
set_option maxRecDepth 100000
set_option maxHeartbeats 4000000
namespace K82
open PySem Ev
theorem step38 {n : Nat} (k i : Nat) (hi : i < 8) {st rest : Sto} {ix : List Nat} {L : List (List Int)} (hs : Deck st (tst rest ix L)) (hr : rest.all (SO.bel (rest.length + 2)) = true) (iv : TInv i ix L) (sg a5 : Option D) :
    ∃ (st' : Sto) (ix' : List Nat) (L' : List (List Int)) (a : Option D), evSs (cf (k + 1)) l38_0 [some (.loc 1), some (.int n), some (.int (i : Int)), some (.loc (rest.length + 2)), sg, a5, none] st = some (.nx, [some (.loc 1), some (.int n), some (.int (i : Int)), some (.loc (rest.length + 2)), sg, a, none], st') ∧ Deck st' (tst rest ix' L') ∧ TInv (i + 1) ix' L' := by
  have hlen := iv.len
  have hLi : L.length ≤ i := by
    have h1 := iv.flat.length_eq
    have h2 : (rgI i).length = i := by simp [rgI]
    have h3 : ∀ L : List (List Int), (∀ l ∈ L, l ≠ []) → L.length ≤ L.flatten.length := by
      intro L
      induction L with
      | nil => intro _; simp
      | cons l L ih =>
        intro h
        have h4 := ih fun x hx => h x (List.mem_cons_of_mem _ hx)
        have h5 : 0 < l.length := List.length_pos_iff.mpr (h l List.mem_cons_self)
        rw [List.flatten_cons, List.length_append, List.length_cons]
        omega
    have := h3 L fun l hl => (iv.lot l hl).1
    omega
  obtain ⟨r, s1, ed, r0, r1, hs1⟩ := e_draw k hs (2 * (ix.length : Int) + 1) (by omega) (by omega)
  obtain ⟨⟨c, m, t, rfl, hc⟩, hok⟩ := hs
  obtain ⟨⟨c1, m1, t1, rfl, hc1⟩, hok1⟩ := hs1
  have p2 : P64 2 = true := by decide +kernel
  have g0 := dk_lots c m t rest ix L
  have g1 := dk_lots c1 m1 t1 rest ix L
  unfold lotsO at g0 g1
  have ln : (ix.map fun j => D.loc (rest.length + 3 + j)).length = ix.length := by simp
  have bx : (dk c1 m1 t1 (tst rest ix L)).length = rest.length + 3 + L.length := by rw [dk_len, tst_len]; omega
  by_cases hlt : r < (ix.length : Int)
  · have hrn : r.toNat < ix.length := by omega
    have hj : ix[r.toNat] < L.length := iv.lt _ (List.getElem_mem hrn)
    have hL : L[ix[r.toNat]]? = some L[ix[r.toNat]] := List.getElem?_eq_getElem hj
    have ha : L2.atI (ix.map fun j => D.loc (rest.length + 3 + j)) r = some (.loc (rest.length + 3 + ix[r.toNat])) := by
      have := atI_nat (ix.map fun j => D.loc (rest.length + 3 + j)) r.toNat (by simpa using hrn)
      rw [show ((r.toNat : Nat) : Int) = r by omega, List.getElem?_map, List.getElem?_eq_getElem hrn] at this
      exact this
    have g2 := dk_lot c1 m1 t1 rest ix L _ _ hL
    have s2 := dk_set_lot c1 m1 t1 rest ix L ix[r.toNat] (L[ix[r.toNat]] ++ [(i : Int)])
    have iv' := tinv_put iv hL
    have ll : L[ix[r.toNat]].length < LIM := by
      have h1 := (iv.lot _ (List.getElem_mem hj))
      have := len_le h1.2.1 h1.2.2
      unfold LIM; omega
    generalize hjj : ix[r.toNat] = j at *
    generalize L[j] = l at *
    have hd : Deck (dk c1 m1 t1 (tst rest ix (L.set j (l ++ [(i : Int)])))) (tst rest ix (L.set j (l ++ [(i : Int)]))) := ⟨⟨c1, m1, t1, rfl, hc1⟩, tst_ok hr _ _ iv'.lt⟩
    refine ⟨dk c1 m1 t1 (tst rest ix (L.set j (l ++ [(i : Int)]))), ix, L.set j (l ++ [(i : Int)]), some (.int r), ?_, hd, iv'⟩
    unfold lo at g2 s2
    rw [← s2]
    generalize (ix.map fun j => D.loc (rest.length + 3 + j)) = zs at g0 g1 ha ln
    generalize dk c1 m1 t1 (tst rest ix L) = S1 at *
    generalize dk c m t (tst rest ix L) = S0 at *
    simp [l38_0, sl, evSs, evS, evE, evEs, evI, evG, evGs, setAll, wipeD, isD_int, isD_bool, isD_str, isD_tup, kInt_non, kInt_bl, kInt_int, kInt_str, kInt_tup, kInt_lst, kBool_non, kBool_bl, kBool_int, kBool_str, kBool_tup, kBool_lst, kStr_non, kStr_bl, kStr_int, kStr_str, kStr_tup, kStr_lst, kTup_non, kTup_bl, kTup_int, kTup_str, kTup_tup, kTup_lst, atI_0, atI_1, atI_2, atI_3, cop, bop, b1D, b2D, ixD, seq_eq, seqX_tup, seqX_lst, seqX_scr, derL_eq, lstX_lst, der_loc, derLoc_lst, derLoc_dct, der_non, der_bl, der_int, der_str, der_tup, der_lst, der_scr, methD, mkL, D.isNon, D.isBl, oint, E.isSkip, slD, revD, dgetD, isLstS, truD, ints?, bls?, der_lotD, der_partD, der_thrD, der_mD, der_prD, seq_lotD, seq_partD, seq_thrD, g0, g1, g2, ln, p2, ed, hlt, ha, ll]
  · have e0 : (r - (ix.length : Int)) = ((r - (ix.length : Int)).toNat : Int) := by omega
    generalize hp : (r - (ix.length : Int)).toNat = p at e0
    have iv' := tinv_new iv p
    have nw := dk_new c1 m1 t1 rest ix L [(i : Int)]
    have g3 := dk_lots c1 m1 t1 rest ix (L ++ [[(i : Int)]])
    have s3 := dk_set_lots c1 m1 t1 rest ix (ix.take p ++ [L.length] ++ ix.drop p) (L ++ [[(i : Int)]])
    have hd : Deck (dk c1 m1 t1 (tst rest (ix.take p ++ [L.length] ++ ix.drop p) (L ++ [[(i : Int)]]))) (tst rest (ix.take p ++ [L.length] ++ ix.drop p) (L ++ [[(i : Int)]])) := ⟨⟨c1, m1, t1, rfl, hc1⟩, tst_ok hr _ _ iv'.lt⟩
    refine ⟨dk c1 m1 t1 (tst rest (ix.take p ++ [L.length] ++ ix.drop p) (L ++ [[(i : Int)]])), (ix.take p ++ [L.length] ++ ix.drop p), L ++ [[(i : Int)]], some (.int r), ?_, hd, iv'⟩
    have lm : (ix.take p ++ [L.length] ++ ix.drop p).map (fun j => D.loc (rest.length + 3 + j)) = (ix.map fun j => D.loc (rest.length + 3 + j)).take p ++ [.loc (rest.length + 3 + L.length)] ++ (ix.map fun j => D.loc (rest.length + 3 + j)).drop p := by
      rw [List.map_append, List.map_append, List.map_take, List.map_drop]
      rfl
    unfold lotsO at g3 s3
    rw [lm] at s3
    rw [← s3]
    unfold lo at nw
    simp only [List.map_cons, List.map_nil] at nw
    rw [← nw] at g3 ⊢
    have l1 : 1 ≤ LIM := by unfold LIM; omega
    have l2 : ix.length < LIM := by unfold LIM; omega
    have l3 : (p : Int) < 4611686018427387904 := by omega
    generalize (ix.map fun j => D.loc (rest.length + 3 + j)) = zs at g0 g1 g3 ln
    generalize dk c1 m1 t1 (tst rest ix L) = S1 at *
    generalize dk c m t (tst rest ix L) = S0 at *
    simp [l38_0, sl, evSs, evS, evE, evEs, evI, evG, evGs, setAll, wipeD, isD_int, isD_bool, isD_str, isD_tup, kInt_non, kInt_bl, kInt_int, kInt_str, kInt_tup, kInt_lst, kBool_non, kBool_bl, kBool_int, kBool_str, kBool_tup, kBool_lst, kStr_non, kStr_bl, kStr_int, kStr_str, kStr_tup, kStr_lst, kTup_non, kTup_bl, kTup_int, kTup_str, kTup_tup, kTup_lst, atI_0, atI_1, atI_2, atI_3, cop, bop, b1D, b2D, ixD, seq_eq, seqX_tup, seqX_lst, seqX_scr, derL_eq, lstX_lst, der_loc, derLoc_lst, derLoc_dct, der_non, der_bl, der_int, der_str, der_tup, der_lst, der_scr, methD, mkL, D.isNon, D.isBl, oint, E.isSkip, slD, revD, dgetD, isLstS, truD, ints?, bls?, der_lotD, der_partD, der_thrD, der_mD, der_prD, seq_lotD, seq_partD, seq_thrD, g0, g1, g3, ln, p2, ed, hlt, e0, l1, l2, l3, bx]
end K82
set_option Elab.async false
set_option linter.all false
set_option maxRecDepth 100000
set_option maxHeartbeats 4000000
namespace K82
open PySem Ev
/-! ### 38, the loop and the end -/
theorem loop38 {n : Nat} (hn : n ≤ 8) (k : Nat) {rest : Sto} (hr : rest.all (SO.bel (rest.length + 2)) = true) (sg : Option D) : ∀ (m i : Nat), i + m = n → ∀ {st : Sto} {ix : List Nat} {L : List (List Int)} (_ : Deck st (tst rest ix L)) (_ : TInv i ix L) (a2 a5 : Option D),
    ∃ (st' : Sto) (ix' : List Nat) (L' : List (List Int)) (b2 b5 : Option D), evFor (evG (.name 2)) (evSs (cf (k + 1)) l38_0) (fun _ => true) ((List.range' i m).map fun (j : Nat) => D.int (j : Int)) [some (.loc 1), some (.int n), a2, some (.loc (rest.length + 2)), sg, a5, none] st = some (.nx, [some (.loc 1), some (.int n), b2, some (.loc (rest.length + 2)), sg, b5, none], st') ∧ Deck st' (tst rest ix' L') ∧ TInv n ix' L'
  | 0, i, h, st, ix, L, hs, iv, a2, a5 => ⟨st, ix, L, a2, a5, by simp [evFor], hs, by rw [← h]; exact iv⟩
  | m + 1, i, h, st, ix, L, hs, iv, a2, a5 => by
    obtain ⟨s1, ix1, L1, a, e1, hs1, iv1⟩ := step38 (n := n) k i (by omega) hs hr iv sg a5
    obtain ⟨st', ix', L', b2, b5, e2, hs2, iv2⟩ := loop38 hn k hr sg m (i + 1) (by omega) hs1 iv1 (some (.int (i : Int))) a
    refine ⟨st', ix', L', b2, b5, ?_, hs2, iv2⟩
    rw [List.range'_succ, List.map_cons, evFor_cons rfl (δ1 := [some (.loc 1), some (.int n), some (.int (i : Int)), some (.loc (rest.length + 2)), sg, a5, none]) (by simp [evG]) e1]
    exact e2
theorem rel_lots {L : List (List Int)} : ∀ {ix : List Nat} {ys : List (List Int × Int)}, Rel2 (fun j y => L[j]? = some y.1 ∧ (y.2 = 1 ∨ y.2 = -1)) ix ys → ys.map (·.1) = ix.map fun j => L.getD j []
  | _, _, .nil => rfl
  | _, _, .cons h t => by
    rw [List.map_cons, List.map_cons, rel_lots t, List.getD_eq_getElem?_getD, h.1]
    rfl
theorem perm_flatten {α : Type} {a b : List (List α)} (h : a.Perm b) : a.flatten.Perm b.flatten := by
  induction h with
  | nil => exact .refl _
  | cons x _ ih => rw [List.flatten_cons, List.flatten_cons]; exact ih.append_left _
  | swap x y l =>
    rw [List.flatten_cons, List.flatten_cons, List.flatten_cons, List.flatten_cons, ← List.append_assoc, ← List.append_assoc]
    exact List.perm_append_comm.append_right _
  | trans _ _ h1 h2 => exact h1.trans h2
theorem range_get (L : List (List Int)) : (List.range L.length).map (fun j => L.getD j []) = L := by
  apply List.ext_getElem
  · simp
  · intro i h1 h2
    simp [List.getD_eq_getElem?_getD, h2]
theorem vthr_of {n : Nat} {ix : List Nat} {L : List (List Int)} (iv : TInv n ix L) {ys : List (List Int × Int)} (h : Rel2 (fun j y => L[j]? = some y.1 ∧ (y.2 = 1 ∨ y.2 = -1)) ix ys) : VThr n ys where
  lot := fun x hx => by
    have := forall2_right (Q := fun y => ∃ j : Nat, L[j]? = some y.1 ∧ (y.2 = 1 ∨ y.2 = -1)) (fun j y h => ⟨j, h⟩) h x hx
    obtain ⟨j, h1, h2⟩ := this
    obtain ⟨a, b, c⟩ := iv.lot _ (List.mem_of_getElem? h1)
    exact ⟨h2, a, b, c⟩
  perm := by
    rw [rel_lots h]
    have h1 := iv.perm.map fun j => L.getD j []
    rw [range_get] at h1
    exact (perm_flatten h1).trans iv.flat
theorem evS_asg {C : Cfg} {g : G} {e : E} {δ δ1 : Ev.Env} {st st1 : Sto} {x : D} (h : evE C e δ st = some (x, st1)) (hg : evG g x δ = some δ1) : evS C (.asg g e) δ st = some (.nx, δ1, st1) := by
  show ((evE C e δ st).bind fun (x, st1) => (evG g x δ).map fun δ1 => (Fl.nx, δ1, st1)) = _
  rw [h]
  show ((evG g x δ).map fun δ1 => (Fl.nx, δ1, st1)) = _
  rw [hg]
  rfl
theorem e_throw {n : Nat} (hn : n ≤ 8) (k : Nat) {st rest : Sto} (hs : Deck st rest) : ∃ (t : Thr) (st' : Sto), evCall prg (k + 3) 38 [.loc 1, .int n] st = some (thrD t, st') ∧ VThr n t ∧ Deck st' rest := by
  have hr := hs.ok
  have hs0 : Deck (st ++ [.lst []]) (tst rest [] []) := by
    obtain ⟨⟨c, m, t, rfl, hc⟩, _⟩ := hs
    exact ⟨⟨c, m, t, rfl, hc⟩, tst_ok hr [] [] (by simp)⟩
  have hl : st.length = rest.length + 2 := by
    obtain ⟨⟨c, m, t, rfl, hc⟩, _⟩ := hs
    exact dk_len _ _ _ _
  obtain ⟨sg, s1, e1, hsg, hs1⟩ := e_pick k hs0 [.lst [.int 1], .lst [.int 1, .int (-1)], .lst [.int 1, .int (-1)], .lst [.int (-1), .int 1]] (by simp) (by simp) (by simp [D.bel, D.bels]) _ (.inl rfl)
  obtain ⟨ws, rfl, hws0, hws, hwb⟩ : ∃ ws : List D, sg = .lst ws ∧ ws ≠ [] ∧ ws.length ≤ 1000 ∧ ∀ w ∈ ws, w = .int 1 ∨ w = .int (-1) := by
    simp at hsg
    rcases hsg with rfl | rfl | rfl <;> exact ⟨_, rfl, by simp, by simp, by simp⟩
  obtain ⟨s2, ix, L, b2, b5, e2, hs2, iv⟩ := loop38 hn (k + 1) hr (some (.lst ws)) n 0 (by omega) (ix := []) (L := []) hs1 ⟨.refl _, by simp, .refl _⟩ none none
  have hks : ∀ s, Deck s (tst rest ix L) → keeps (.loc (rest.length + 2)) (ix.map fun j => D.loc (rest.length + 3 + j)) s = true := fun s h => by
    obtain ⟨⟨c, m, t, rfl, hc⟩, _⟩ := h
    have g0 := dk_lots c m t rest ix L
    unfold lotsO at g0
    show (match (dk c m t (tst rest ix L))[rest.length + 2]? with | some (.lst ys) => D.sames _ ys | _ => false) = true
    rw [g0]
    exact sames_refl _
  have hlen := iv.len
  have hL8 : L.length ≤ 1000 := by
    have h1 := iv.flat.length_eq
    have h2 : (rgI n).length = n := by simp [rgI]
    have h3 : ∀ L : List (List Int), (∀ l ∈ L, l ≠ []) → L.length ≤ L.flatten.length := by
      intro L
      induction L with
      | nil => intro _; simp
      | cons l L ih =>
        intro h
        have h4 := ih fun x hx => h x (List.mem_cons_of_mem _ hx)
        have h5 : 0 < l.length := List.length_pos_iff.mpr (h l List.mem_cons_self)
        rw [List.flatten_cons, List.length_append, List.length_cons]
        omega
    have := h3 L fun l hl => (iv.lot l hl).1
    omega
  obtain ⟨ys, s3, e3, hR, hs3⟩ := evC_rel (rest := tst rest ix L) (g := evG (.name 6)) (c := evE (cf (k + 2)) (.bl true)) (e := evE (cf (k + 2)) (.tup (.cons (.b1 false .tuple (.var 6)) (.cons (.call 35 (.cons (.var 0) (.cons (.var 4) .nil))) .nil)))) (ok := keeps (.loc (rest.length + 2)) (ix.map fun j => D.loc (rest.length + 3 + j))) (δ := [some (.loc 1), some (.int n), b2, some (.loc (rest.length + 2)), some (.lst ws), b5, none]) (fun j : Nat => D.loc (rest.length + 3 + j)) partD (fun j y => L[j]? = some y.1 ∧ (y.2 = 1 ∨ y.2 = -1)) hks (xs := ix) hs2 fun j hj => ⟨[some (.loc 1), some (.int n), b2, some (.loc (rest.length + 2)), some (.lst ws), b5, some (.loc (rest.length + 3 + j))], by simp [evG], fun s => rfl, fun s h => by
    obtain ⟨w, s', e, hw, hs'⟩ := e_pick k h ws hws0 hws (fun w hw => by rcases hwb w hw with rfl | rfl <;> rfl) _ (.inl rfl)
    have hj2 : j < L.length := iv.lt j hj
    have hLj : L[j]? = some L[j] := List.getElem?_eq_getElem hj2
    have ll : L[j].length ≤ LIM := by
      have h1 := (iv.lot _ (List.getElem_mem hj2))
      have := len_le h1.2.1 h1.2.2
      unfold LIM; omega
    generalize L[j] = l at *
    obtain ⟨i, rfl, hi⟩ : ∃ i : Int, w = .int i ∧ (i = 1 ∨ i = -1) := by
      rcases hwb w hw with rfl | rfl
      · exact ⟨1, rfl, .inl rfl⟩
      · exact ⟨-1, rfl, .inr rfl⟩
    refine ⟨(l, i), s', ?_, ⟨hLj, hi⟩, hs'⟩
    obtain ⟨⟨c, m, t, rfl, hc⟩, _⟩ := h
    have g2 := dk_lot c m t rest ix L j l hLj
    unfold lo at g2
    generalize dk c m t (tst rest ix L) = S1 at *
    simp [sl, evSs, evS, evE, evEs, evI, evG, evGs, setAll, wipeD, isD_int, isD_bool, isD_str, isD_tup, kInt_non, kInt_bl, kInt_int, kInt_str, kInt_tup, kInt_lst, kBool_non, kBool_bl, kBool_int, kBool_str, kBool_tup, kBool_lst, kStr_non, kStr_bl, kStr_int, kStr_str, kStr_tup, kStr_lst, kTup_non, kTup_bl, kTup_int, kTup_str, kTup_tup, kTup_lst, atI_0, atI_1, atI_2, atI_3, cop, bop, b1D, b2D, ixD, seq_eq, seqX_tup, seqX_lst, seqX_scr, derL_eq, lstX_lst, der_loc, derLoc_lst, derLoc_dct, der_non, der_bl, der_int, der_str, der_tup, der_lst, der_scr, methD, mkL, D.isNon, D.isBl, oint, E.isSkip, slD, revD, dgetD, isLstS, truD, ints?, bls?, der_lotD, der_partD, der_thrD, der_mD, der_prD, seq_lotD, seq_partD, seq_thrD, g2, e, partD, lotD]⟩
  have q : evE (cf (k + 2)) q38_0 [some (.loc 1), some (.int n), b2, some (.loc (rest.length + 2)), some (.lst ws), b5, none] s2 = some (.lst (ys.map partD), s3) := by
    refine evE_comp (st1 := s2) (w := ⟨ix.map fun j => D.loc (rest.length + 3 + j), keeps (.loc (rest.length + 2)) (ix.map fun j => D.loc (rest.length + 3 + j))⟩) ?_ e3 (mkL_ok ?_)
    · obtain ⟨⟨c, m, t, rfl, hc⟩, _⟩ := hs2
      have g0 := dk_lots c m t rest ix L
      unfold lotsO at g0
      generalize (ix.map fun j => D.loc (rest.length + 3 + j)) = zs at *
      generalize dk c m t (tst rest ix L) = S1 at *
      simp [sl, evSs, evS, evE, evEs, evI, evG, evGs, setAll, wipeD, isD_int, isD_bool, isD_str, isD_tup, kInt_non, kInt_bl, kInt_int, kInt_str, kInt_tup, kInt_lst, kBool_non, kBool_bl, kBool_int, kBool_str, kBool_tup, kBool_lst, kStr_non, kStr_bl, kStr_int, kStr_str, kStr_tup, kStr_lst, kTup_non, kTup_bl, kTup_int, kTup_str, kTup_tup, kTup_lst, atI_0, atI_1, atI_2, atI_3, cop, bop, b1D, b2D, ixD, seq_eq, seqX_tup, seqX_lst, seqX_scr, derL_eq, lstX_lst, der_loc, derLoc_lst, derLoc_dct, der_non, der_bl, der_int, der_str, der_tup, der_lst, der_scr, methD, mkL, D.isNon, D.isBl, oint, E.isSkip, slD, revD, dgetD, isLstS, truD, ints?, bls?, der_lotD, der_partD, der_thrD, der_mD, der_prD, seq_lotD, seq_partD, seq_thrD, g0]
    · have := forall2_len hR
      rw [List.length_map]
      unfold LIM; omega
  obtain ⟨s4, hs4, rfl⟩ := deck_tst hs3 hr
  have f : evS (cf (k + 2)) f38_0 [some (.loc 1), some (.int n), none, some (.loc (rest.length + 2)), some (.lst ws), none, none] s1 = some (.nx, [some (.loc 1), some (.int n), b2, some (.loc (rest.length + 2)), some (.lst ws), b5, none], s2) := by
    refine evS_for (i_rng (k + 2) n 1 hn _ _ rfl) ?_
    have : (rgI n).map D.int = (List.range' 0 n).map fun (j : Nat) => D.int (j : Int) := by
      unfold rgI
      rw [List.map_map, List.range_eq_range']
      rfl
    rw [this]
    exact e2
  refine ⟨ys, s4, call_dk (ex := lotsO rest.length ix :: L.map lo) (d := d38) (δ := [some (.loc 1), some (.int n), b2, some (.loc (rest.length + 2)), some (.lst ws), b5, none]) hs hs4 rfl rfl ?_ (bel_thr ys), vthr_of iv hR, hs4⟩
  generalize s4 ++ lotsO rest.length ix :: L.map lo = s5 at *
  have lim0 : 0 ≤ LIM := by unfold LIM; omega
  have lim4 : 4 ≤ LIM := by unfold LIM; omega
  have lim1 : 1 ≤ LIM := by unfold LIM; omega
  have lim2 : 2 ≤ LIM := by unfold LIM; omega
  have a : evS (cf (k + 2)) (.asg (.tup [(.name 3), (.name 4)]) (.tup (.cons (.lst true .nil) (.cons (.call 35 (.cons (.var 0) (.cons (.lst false (.cons (.lst false (.cons (.int 1) .nil)) (.cons (.lst false (.cons (.int 1) (.cons (.neg (.int 1)) .nil))) (.cons (.lst false (.cons (.int 1) (.cons (.neg (.int 1)) .nil))) (.cons (.lst false (.cons (.neg (.int 1)) (.cons (.int 1) .nil))) .nil))))) .nil))) .nil)))) [some (.loc 1), some (.int n), none, none, none, none, none] st = some (.nx, [some (.loc 1), some (.int n), none, some (.loc (rest.length + 2)), some (.lst ws), none, none], s1) := by
    refine evS_asg (x := .tup [.loc (rest.length + 2), .lst ws]) ?_ (by simp [evG, evGs])
    simp [sl, evSs, evS, evE, evEs, evI, evG, evGs, setAll, wipeD, isD_int, isD_bool, isD_str, isD_tup, kInt_non, kInt_bl, kInt_int, kInt_str, kInt_tup, kInt_lst, kBool_non, kBool_bl, kBool_int, kBool_str, kBool_tup, kBool_lst, kStr_non, kStr_bl, kStr_int, kStr_str, kStr_tup, kStr_lst, kTup_non, kTup_bl, kTup_int, kTup_str, kTup_tup, kTup_lst, atI_0, atI_1, atI_2, atI_3, cop, bop, b1D, b2D, ixD, seq_eq, seqX_tup, seqX_lst, seqX_scr, derL_eq, lstX_lst, der_loc, derLoc_lst, derLoc_dct, der_non, der_bl, der_int, der_str, der_tup, der_lst, der_scr, methD, mkL, D.isNon, D.isBl, oint, E.isSkip, slD, revD, dgetD, isLstS, truD, ints?, bls?, der_lotD, der_partD, der_thrD, der_mD, der_prD, seq_lotD, seq_partD, seq_thrD, hl, lim0, lim1, lim2, lim4, e1]
  show evSs (cf (k + 2)) b38 [some (.loc 1), some (.int n), none, none, none, none, none] st = _
  unfold b38
  rw [evSs, a]
  simp [sl, evSs, evS, evE, evEs, evI, evG, evGs, setAll, wipeD, isD_int, isD_bool, isD_str, isD_tup, kInt_non, kInt_bl, kInt_int, kInt_str, kInt_tup, kInt_lst, kBool_non, kBool_bl, kBool_int, kBool_str, kBool_tup, kBool_lst, kStr_non, kStr_bl, kStr_int, kStr_str, kStr_tup, kStr_lst, kTup_non, kTup_bl, kTup_int, kTup_str, kTup_tup, kTup_lst, atI_0, atI_1, atI_2, atI_3, cop, bop, b1D, b2D, ixD, seq_eq, seqX_tup, seqX_lst, seqX_scr, derL_eq, lstX_lst, der_loc, derLoc_lst, derLoc_dct, der_non, der_bl, der_int, der_str, der_tup, der_lst, der_scr, methD, mkL, D.isNon, D.isBl, oint, E.isSkip, slD, revD, dgetD, isLstS, truD, ints?, bls?, der_lotD, der_partD, der_thrD, der_mD, der_prD, seq_lotD, seq_partD, seq_thrD, f, q, thrD]
end K82
set_option Elab.async false
set_option linter.all false
set_option maxRecDepth 100000
set_option maxHeartbeats 4000000
namespace K82
open PySem Ev
/-! ### 40 -/
theorem e_drawK {K : Nat} (hK : 1 ≤ K) {st rest : Sto} (hs : Deck st rest) (b : Int) (h0 : 0 < b) (h1 : b < 2 ^ 20) : ∃ (r : Int) (st' : Sto), evCall prg K 34 [.loc 1, .int b] st = some (.int r, st') ∧ 0 ≤ r ∧ r < b ∧ Deck st' rest := by
  obtain ⟨k, rfl⟩ : ∃ k, K = k + 1 := ⟨K - 1, by omega⟩
  exact e_draw k hs b h0 h1
theorem e_throwK {n : Nat} (hn : n ≤ 8) {K : Nat} (hK : 3 ≤ K) {st rest : Sto} (hs : Deck st rest) : ∃ (t : Thr) (st' : Sto), evCall prg K 38 [.loc 1, .int n] st = some (thrD t, st') ∧ VThr n t ∧ Deck st' rest := by
  obtain ⟨k, rfl⟩ : ∃ k, K = k + 3 := ⟨K - 3, by omega⟩
  exact e_throw hn k hs
theorem q40_0_eq {K : Nat} (hK : 1 ≤ K) {n : Nat} (hn : n ≤ 8) {st rest : Sto} (hs : Deck st rest) (e2 e3 e4 e5 e6 e7 e8 e9 : Option D) : ∃ (ks : List Int) (st' : Sto), evE (cf K) q40_0 [some (.loc 1), some (.int n), e2, e3, e4, e5, e6, e7, e8, e9, none] st = some (.lst (ks.map D.int), st') ∧ ks.Sublist (rgI n) ∧ Deck st' rest := by
  obtain ⟨ks, st', e, hsub, hs'⟩ := evC_sub (rest := rest) (g := evG (.name 10)) (c := evE (cf K) (.cmp .eq (.call 34 (.cons (.var 0) (.cons (.int 2) .nil))) (.int 0))) (e := evE (cf K) (.var 10)) (ok := fun _ => true) (δ := [some (.loc 1), some (.int n), e2, e3, e4, e5, e6, e7, e8, e9, none]) D.int D.int (fun _ _ => rfl) (xs := rgI n) hs fun x _ => ⟨[some (.loc 1), some (.int n), e2, e3, e4, e5, e6, e7, e8, e9, some (.int x)], by simp [evG], fun s h => by
    obtain ⟨r, s', ed, _, _, hs'⟩ := e_drawK hK h 2 (by omega) (by omega)
    exact ⟨decide (r = 0), s', by simp [sl, evSs, evS, evE, evEs, evI, evG, evGs, setAll, wipeD, isD_int, isD_bool, isD_str, isD_tup, kInt_non, kInt_bl, kInt_int, kInt_str, kInt_tup, kInt_lst, kBool_non, kBool_bl, kBool_int, kBool_str, kBool_tup, kBool_lst, kStr_non, kStr_bl, kStr_int, kStr_str, kStr_tup, kStr_lst, kTup_non, kTup_bl, kTup_int, kTup_str, kTup_tup, kTup_lst, atI_0, atI_1, atI_2, atI_3, cop, bop, b1D, b2D, ixD, seq_eq, seqX_tup, seqX_lst, seqX_scr, derL_eq, lstX_lst, der_loc, derLoc_lst, derLoc_dct, der_non, der_bl, der_int, der_str, der_tup, der_lst, der_scr, methD, mkL, D.isNon, D.isBl, oint, E.isSkip, slD, revD, dgetD, isLstS, truD, ints?, bls?, der_lotD, der_partD, der_thrD, der_mD, der_prD, seq_lotD, seq_partD, seq_thrD, ed, deq_int], hs'⟩, fun s => by simp [sl, evSs, evS, evE, evEs, evI, evG, evGs, setAll, wipeD, isD_int, isD_bool, isD_str, isD_tup, kInt_non, kInt_bl, kInt_int, kInt_str, kInt_tup, kInt_lst, kBool_non, kBool_bl, kBool_int, kBool_str, kBool_tup, kBool_lst, kStr_non, kStr_bl, kStr_int, kStr_str, kStr_tup, kStr_lst, kTup_non, kTup_bl, kTup_int, kTup_str, kTup_tup, kTup_lst, atI_0, atI_1, atI_2, atI_3, cop, bop, b1D, b2D, ixD, seq_eq, seqX_tup, seqX_lst, seqX_scr, derL_eq, lstX_lst, der_loc, derLoc_lst, derLoc_dct, der_non, der_bl, der_int, der_str, der_tup, der_lst, der_scr, methD, mkL, D.isNon, D.isBl, oint, E.isSkip, slD, revD, dgetD, isLstS, truD, ints?, bls?, der_lotD, der_partD, der_thrD, der_mD, der_prD, seq_lotD, seq_partD, seq_thrD]⟩
  refine ⟨ks, st', evE_comp (i_rng K n 1 hn _ _ rfl) e (mkL_ok ?_), hsub, hs'⟩
  have := hsub.length_le
  rw [List.length_map]
  have h2 : (rgI n).length = n := by simp [rgI]
  unfold LIM; omega
theorem sub_kinds {n : Nat} {ks : List Int} (h : ks.Sublist (rgI n)) : ks.Pairwise (· < ·) ∧ ∀ x ∈ ks, 0 ≤ x ∧ x < (n : Int) := by
  refine ⟨?_, fun x hx => rgI_mem.mp (h.subset hx)⟩
  have : (rgI n).Pairwise (· < ·) := by
    unfold rgI
    rw [List.pairwise_map]
    exact List.pairwise_lt_range.imp fun h => by omega
  exact this.sublist h
abbrev Sub40 (n d room : Nat) (p : Pr) : Prop := VPr n p ∧ dp p ≤ d ∧ sz p ≤ room
theorem pre40 {K : Nat} (hK : 1 ≤ K) {st rest : Sto} (hs : Deck st rest) (n R De : Int) : ∃ (W : Int) (st' : Sto), 0 ≤ W ∧ W < 10 ∧ Deck st' rest ∧ ∀ tl : Ss, evSs (cf K) (.cons (.set 4 (.call 34 (.cons (.var 0) (.cons (.int 10) .nil)))) (.cons (.iff (.and (.cmp .gt (.var 3) (.int 6)) (.cmp .lt (.var 4) (.int 2))) (.cons (.set 4 (.bin .add (.var 4) (.int 6))) .nil) .nil) tl)) [some (.loc 1), some (.int n), some (.int De), some (.int R), none, none, none, none, none, none, none] st = evSs (cf K) tl [some (.loc 1), some (.int n), some (.int De), some (.int R), some (.int W), none, none, none, none, none, none] st' := by
  obtain ⟨r, s', ed, r0, r1, hs'⟩ := e_drawK hK hs 10 (by omega) (by omega)
  by_cases h1 : 6 < R
  · by_cases h2 : r < 2
    · exact ⟨r + 6, s', by omega, by omega, hs', fun tl => by simp [sl, evSs, evS, evE, evEs, evI, evG, evGs, setAll, wipeD, isD_int, isD_bool, isD_str, isD_tup, kInt_non, kInt_bl, kInt_int, kInt_str, kInt_tup, kInt_lst, kBool_non, kBool_bl, kBool_int, kBool_str, kBool_tup, kBool_lst, kStr_non, kStr_bl, kStr_int, kStr_str, kStr_tup, kStr_lst, kTup_non, kTup_bl, kTup_int, kTup_str, kTup_tup, kTup_lst, atI_0, atI_1, atI_2, atI_3, cop, bop, b1D, b2D, ixD, seq_eq, seqX_tup, seqX_lst, seqX_scr, derL_eq, lstX_lst, der_loc, derLoc_lst, derLoc_dct, der_non, der_bl, der_int, der_str, der_tup, der_lst, der_scr, methD, mkL, D.isNon, D.isBl, oint, E.isSkip, slD, revD, dgetD, isLstS, truD, ints?, bls?, der_lotD, der_partD, der_thrD, der_mD, der_prD, seq_lotD, seq_partD, seq_thrD, ed, h1, h2]⟩
    · exact ⟨r, s', r0, r1, hs', fun tl => by simp [sl, evSs, evS, evE, evEs, evI, evG, evGs, setAll, wipeD, isD_int, isD_bool, isD_str, isD_tup, kInt_non, kInt_bl, kInt_int, kInt_str, kInt_tup, kInt_lst, kBool_non, kBool_bl, kBool_int, kBool_str, kBool_tup, kBool_lst, kStr_non, kStr_bl, kStr_int, kStr_str, kStr_tup, kStr_lst, kTup_non, kTup_bl, kTup_int, kTup_str, kTup_tup, kTup_lst, atI_0, atI_1, atI_2, atI_3, cop, bop, b1D, b2D, ixD, seq_eq, seqX_tup, seqX_lst, seqX_scr, derL_eq, lstX_lst, der_loc, derLoc_lst, derLoc_dct, der_non, der_bl, der_int, der_str, der_tup, der_lst, der_scr, methD, mkL, D.isNon, D.isBl, oint, E.isSkip, slD, revD, dgetD, isLstS, truD, ints?, bls?, der_lotD, der_partD, der_thrD, der_mD, der_prD, seq_lotD, seq_partD, seq_thrD, ed, h1, h2]⟩
  · exact ⟨r, s', r0, r1, hs', fun tl => by simp [sl, evSs, evS, evE, evEs, evI, evG, evGs, setAll, wipeD, isD_int, isD_bool, isD_str, isD_tup, kInt_non, kInt_bl, kInt_int, kInt_str, kInt_tup, kInt_lst, kBool_non, kBool_bl, kBool_int, kBool_str, kBool_tup, kBool_lst, kStr_non, kStr_bl, kStr_int, kStr_str, kStr_tup, kStr_lst, kTup_non, kTup_bl, kTup_int, kTup_str, kTup_tup, kTup_lst, atI_0, atI_1, atI_2, atI_3, cop, bop, b1D, b2D, ixD, seq_eq, seqX_tup, seqX_lst, seqX_scr, derL_eq, lstX_lst, der_loc, derLoc_lst, derLoc_dct, der_non, der_bl, der_int, der_str, der_tup, der_lst, der_scr, methD, mkL, D.isNon, D.isBl, oint, E.isSkip, slD, revD, dgetD, isLstS, truD, ints?, bls?, der_lotD, der_partD, der_thrD, der_mD, der_prD, seq_lotD, seq_partD, seq_thrD, ed, h1]⟩
theorem subs40 {n : Nat} (K : Nat) (d r : Nat) (R De M : Int) (hM : 0 ≤ M) (hM2 : M ≤ 1000) (hr : 0 < M → (R - 1) / M = (r : Int))
    (ih : 0 < M → ∀ {st rest : Sto}, Deck st rest → ∃ (p : Pr) (st' : Sto), evCall prg K 40 [.loc 1, .int n, .int (De - 1), .int (r : Int)] st = some (prD p, st') ∧ Sub40 n d r p ∧ Deck st' rest)
    {st rest : Sto} (hs : Deck st rest) (e4 e5 e6 e8 : Option D) : ∃ (ps : List Pr) (st' : Sto), evE (cf K) q40_1 [some (.loc 1), some (.int n), some (.int De), some (.int R), e4, e5, e6, some (.int M), e8, none, none] st = some (.lst (ps.map prD), st') ∧ ps.length = M.toNat ∧ (∀ p ∈ ps, Sub40 n d r p) ∧ Deck st' rest := by
  obtain ⟨ps, st', e, hR, hs'⟩ := evC_rel (rest := rest) (g := evG (.name 9)) (c := evE (cf K) (.bl true)) (e := evE (cf K) (.call 40 (.cons (.var 0) (.cons (.var 1) (.cons (.bin .sub (.var 2) (.int 1)) (.cons (.bin .fdiv (.bin .sub (.var 3) (.int 1)) (.var 7)) .nil)))))) (ok := fun _ => true) (δ := [some (.loc 1), some (.int n), some (.int De), some (.int R), e4, e5, e6, some (.int M), e8, none, none]) D.int prD (fun _ p => Sub40 n d r p) (fun _ _ => rfl) (xs := rgI M.toNat) hs fun x hx => ⟨[some (.loc 1), some (.int n), some (.int De), some (.int R), e4, e5, e6, some (.int M), e8, some (.int x), none], by simp [evG], fun s => rfl, fun s h => by
    have hx2 := rgI_mem.mp hx
    have hM0 : 0 < M := by omega
    obtain ⟨p, s', e, hp, hs'⟩ := ih hM0 h
    refine ⟨p, s', ?_, hp, hs'⟩
    have hr' := hr hM0
    have hM3 : M < 1073741824 := by omega
    simp [sl, evSs, evS, evE, evEs, evI, evG, evGs, setAll, wipeD, isD_int, isD_bool, isD_str, isD_tup, kInt_non, kInt_bl, kInt_int, kInt_str, kInt_tup, kInt_lst, kBool_non, kBool_bl, kBool_int, kBool_str, kBool_tup, kBool_lst, kStr_non, kStr_bl, kStr_int, kStr_str, kStr_tup, kStr_lst, kTup_non, kTup_bl, kTup_int, kTup_str, kTup_tup, kTup_lst, atI_0, atI_1, atI_2, atI_3, cop, bop, b1D, b2D, ixD, seq_eq, seqX_tup, seqX_lst, seqX_scr, derL_eq, lstX_lst, der_loc, derLoc_lst, derLoc_dct, der_non, der_bl, der_int, der_str, der_tup, der_lst, der_scr, methD, mkL, D.isNon, D.isBl, oint, E.isSkip, slD, revD, dgetD, isLstS, truD, ints?, bls?, der_lotD, der_partD, der_thrD, der_mD, der_prD, seq_lotD, seq_partD, seq_thrD, hM0, hM3, hr', e]⟩
  have hlen := forall2_len hR
  have hl2 : (rgI M.toNat).length = M.toNat := by simp [rgI]
  refine ⟨ps, st', evE_comp (st1 := st) (w := ⟨(rgI M.toNat).map D.int, fun _ => true⟩) ?_ e (mkL_ok ?_), by omega, forall2_right (Q := fun p => Sub40 n d r p) (fun _ _ h => h) hR, hs'⟩
  · have h : M ≤ (LIM : Int) ∧ -(LIM : Int) ≤ M := by unfold LIM; omega
    simp [sl, evSs, evS, evE, evEs, evI, evG, evGs, setAll, wipeD, isD_int, isD_bool, isD_str, isD_tup, kInt_non, kInt_bl, kInt_int, kInt_str, kInt_tup, kInt_lst, kBool_non, kBool_bl, kBool_int, kBool_str, kBool_tup, kBool_lst, kStr_non, kStr_bl, kStr_int, kStr_str, kStr_tup, kStr_lst, kTup_non, kTup_bl, kTup_int, kTup_str, kTup_tup, kTup_lst, atI_0, atI_1, atI_2, atI_3, cop, bop, b1D, b2D, ixD, seq_eq, seqX_tup, seqX_lst, seqX_scr, derL_eq, lstX_lst, der_loc, derLoc_lst, derLoc_dct, der_non, der_bl, der_int, der_str, der_tup, der_lst, der_scr, methD, mkL, D.isNon, D.isBl, oint, E.isSkip, slD, revD, dgetD, isLstS, truD, ints?, bls?, der_lotD, der_partD, der_thrD, der_mD, der_prD, seq_lotD, seq_partD, seq_thrD, h, rngD, rgI]
  · rw [List.length_map]
    unfold LIM; omega
theorem szs_bound {r : Nat} : ∀ {ps : List Pr}, (∀ p ∈ ps, sz p ≤ r) → szs ps ≤ ps.length * r
  | [], _ => by simp [szs]
  | p :: ps, h => by
    have h1 := h p List.mem_cons_self
    have h2 := szs_bound fun q hq => h q (List.mem_cons_of_mem p hq)
    rw [szs, List.length_cons, Nat.succ_mul]
    omega
theorem dps_bound {r : Nat} : ∀ {ps : List Pr}, (∀ p ∈ ps, dp p ≤ r) → dps ps ≤ r
  | [], _ => by simp [dps]
  | p :: ps, h => by
    have h1 := h p List.mem_cons_self
    have h2 := dps_bound fun q hq => h q (List.mem_cons_of_mem p hq)
    rw [dps]
    omega
theorem div_fits {R M r : Nat} (h : r = (R - 1) / M) : M * r ≤ R - 1 := by
  rw [h]
  exact Nat.mul_div_le _ _
theorem many_sz {r M room : Nat} {ps : List Pr} (h : ∀ p ∈ ps, sz p ≤ r) (hl : ps.length = M) (hr : r = (room - 1) / M) (h1 : 1 ≤ room) : szs ps + 1 ≤ room := by
  have h2 := szs_bound h
  have h3 := div_fits hr
  rw [hl] at h2
  omega
theorem e_program {n : Nat} (hn : n ≤ 8) (k : Nat) : ∀ (d room : Nat) (De R : Int) {st rest : Sto}, Deck st rest → De = (d : Int) + 1 → R = (room : Int) → 1 ≤ room → room ≤ 40 → d ≤ 5 → ∃ (p : Pr) (st' : Sto), evCall prg (k + 4 + d) 40 [.loc 1, .int n, .int De, .int R] st = some (prD p, st') ∧ Sub40 n (d + 1) room p ∧ Deck st' rest := by
  intro d
  induction d with
  | zero =>
    intro room De R st rest hs hE hR h1 h2 hd
    obtain ⟨W, s1, W0, W1, hs1, hpre⟩ := pre40 (K := k + 3) (by omega) hs n R De
    have hb := (hpre _ : evSs (cf (k + 3)) b40 _ st = _)
    have cE : De < 2 := by omega
    by_cases h9 : W = 9
    · refine ⟨.row [], s1, call_dk (ex := []) (d := d40) (δ := [some (.loc 1), some (.int n), some (.int De), some (.int R), some (.int W), none, none, none, none, none, none]) hs hs1 rfl rfl ?_ (bel_pr _), ⟨trivial, by simp [dp, dps], by simp [sz, szs]; omega⟩, hs1⟩
      refine hb.trans ?_
      simp [sl, evSs, evS, evE, evEs, evI, evG, evGs, setAll, wipeD, isD_int, isD_bool, isD_str, isD_tup, kInt_non, kInt_bl, kInt_int, kInt_str, kInt_tup, kInt_lst, kBool_non, kBool_bl, kBool_int, kBool_str, kBool_tup, kBool_lst, kStr_non, kStr_bl, kStr_int, kStr_str, kStr_tup, kStr_lst, kTup_non, kTup_bl, kTup_int, kTup_str, kTup_tup, kTup_lst, atI_0, atI_1, atI_2, atI_3, cop, bop, b1D, b2D, ixD, seq_eq, seqX_tup, seqX_lst, seqX_scr, derL_eq, lstX_lst, der_loc, derLoc_lst, derLoc_dct, der_non, der_bl, der_int, der_str, der_tup, der_lst, der_scr, methD, mkL, D.isNon, D.isBl, oint, E.isSkip, slD, revD, dgetD, isLstS, truD, ints?, bls?, der_lotD, der_partD, der_thrD, der_mD, der_prD, seq_lotD, seq_partD, seq_thrD, cE, h9, deq_int, prD, prDs]
    · obtain ⟨t, s2, et, ht, hs2⟩ := e_throw hn k hs1
      refine ⟨.throw t, s2, call_dk (ex := []) (d := d40) (δ := [some (.loc 1), some (.int n), some (.int De), some (.int R), some (.int W), none, none, none, none, none, none]) hs hs2 rfl rfl ?_ (bel_pr _), ⟨ht, by simp [dp], by simp [sz]; omega⟩, hs2⟩
      refine hb.trans ?_
      simp [sl, evSs, evS, evE, evEs, evI, evG, evGs, setAll, wipeD, isD_int, isD_bool, isD_str, isD_tup, kInt_non, kInt_bl, kInt_int, kInt_str, kInt_tup, kInt_lst, kBool_non, kBool_bl, kBool_int, kBool_str, kBool_tup, kBool_lst, kStr_non, kStr_bl, kStr_int, kStr_str, kStr_tup, kStr_lst, kTup_non, kTup_bl, kTup_int, kTup_str, kTup_tup, kTup_lst, atI_0, atI_1, atI_2, atI_3, cop, bop, b1D, b2D, ixD, seq_eq, seqX_tup, seqX_lst, seqX_scr, derL_eq, lstX_lst, der_loc, derLoc_lst, derLoc_dct, der_non, der_bl, der_int, der_str, der_tup, der_lst, der_scr, methD, mkL, D.isNon, D.isBl, oint, E.isSkip, slD, revD, dgetD, isLstS, truD, ints?, bls?, der_lotD, der_partD, der_thrD, der_mD, der_prD, seq_lotD, seq_partD, seq_thrD, cE, h9, deq_int, prD, et]
  | succ d ih =>
    intro room De R st rest hs hE hR h1 h2 hd
    obtain ⟨W, s1, W0, W1, hs1, hpre⟩ := pre40 (K := k + 4 + d) (by omega) hs n R De
    have hb := (hpre _ : evSs (cf (k + 4 + d)) b40 _ st = _)
    have cE : ¬ De < 2 := by omega
    by_cases hA : R < 3 ∨ W < 2
    · have hA2 : (decide (R < 3) || decide (W < 2)) = true := by simpa using hA
      by_cases h9 : W = 9
      · refine ⟨.row [], s1, call_dk (ex := []) (d := d40) (δ := [some (.loc 1), some (.int n), some (.int De), some (.int R), some (.int W), none, none, none, none, none, none]) hs hs1 rfl rfl ?_ (bel_pr _), ⟨trivial, by simp [dp, dps], by simp [sz, szs]; omega⟩, hs1⟩
        refine hb.trans ?_
        rcases hA with h | h
        · simp [sl, evSs, evS, evE, evEs, evI, evG, evGs, setAll, wipeD, isD_int, isD_bool, isD_str, isD_tup, kInt_non, kInt_bl, kInt_int, kInt_str, kInt_tup, kInt_lst, kBool_non, kBool_bl, kBool_int, kBool_str, kBool_tup, kBool_lst, kStr_non, kStr_bl, kStr_int, kStr_str, kStr_tup, kStr_lst, kTup_non, kTup_bl, kTup_int, kTup_str, kTup_tup, kTup_lst, atI_0, atI_1, atI_2, atI_3, cop, bop, b1D, b2D, ixD, seq_eq, seqX_tup, seqX_lst, seqX_scr, derL_eq, lstX_lst, der_loc, derLoc_lst, derLoc_dct, der_non, der_bl, der_int, der_str, der_tup, der_lst, der_scr, methD, mkL, D.isNon, D.isBl, oint, E.isSkip, slD, revD, dgetD, isLstS, truD, ints?, bls?, der_lotD, der_partD, der_thrD, der_mD, der_prD, seq_lotD, seq_partD, seq_thrD, cE, h, h9, deq_int, prD, prDs]
        · omega
      · obtain ⟨t, s2, et, ht, hs2⟩ := e_throwK hn (K := k + 4 + d) (by omega) hs1
        refine ⟨.throw t, s2, call_dk (ex := []) (d := d40) (δ := [some (.loc 1), some (.int n), some (.int De), some (.int R), some (.int W), none, none, none, none, none, none]) hs hs2 rfl rfl ?_ (bel_pr _), ⟨ht, by simp [dp], by simp [sz]; omega⟩, hs2⟩
        refine hb.trans ?_
        by_cases h3 : R < 3
        · simp [sl, evSs, evS, evE, evEs, evI, evG, evGs, setAll, wipeD, isD_int, isD_bool, isD_str, isD_tup, kInt_non, kInt_bl, kInt_int, kInt_str, kInt_tup, kInt_lst, kBool_non, kBool_bl, kBool_int, kBool_str, kBool_tup, kBool_lst, kStr_non, kStr_bl, kStr_int, kStr_str, kStr_tup, kStr_lst, kTup_non, kTup_bl, kTup_int, kTup_str, kTup_tup, kTup_lst, atI_0, atI_1, atI_2, atI_3, cop, bop, b1D, b2D, ixD, seq_eq, seqX_tup, seqX_lst, seqX_scr, derL_eq, lstX_lst, der_loc, derLoc_lst, derLoc_dct, der_non, der_bl, der_int, der_str, der_tup, der_lst, der_scr, methD, mkL, D.isNon, D.isBl, oint, E.isSkip, slD, revD, dgetD, isLstS, truD, ints?, bls?, der_lotD, der_partD, der_thrD, der_mD, der_prD, seq_lotD, seq_partD, seq_thrD, cE, h3, h9, deq_int, prD, et]
        · have h4 : W < 2 := by omega
          simp [sl, evSs, evS, evE, evEs, evI, evG, evGs, setAll, wipeD, isD_int, isD_bool, isD_str, isD_tup, kInt_non, kInt_bl, kInt_int, kInt_str, kInt_tup, kInt_lst, kBool_non, kBool_bl, kBool_int, kBool_str, kBool_tup, kBool_lst, kStr_non, kStr_bl, kStr_int, kStr_str, kStr_tup, kStr_lst, kTup_non, kTup_bl, kTup_int, kTup_str, kTup_tup, kTup_lst, atI_0, atI_1, atI_2, atI_3, cop, bop, b1D, b2D, ixD, seq_eq, seqX_tup, seqX_lst, seqX_scr, derL_eq, lstX_lst, der_loc, derLoc_lst, derLoc_dct, der_non, der_bl, der_int, der_str, der_tup, der_lst, der_scr, methD, mkL, D.isNon, D.isBl, oint, E.isSkip, slD, revD, dgetD, isLstS, truD, ints?, bls?, der_lotD, der_partD, der_thrD, der_mD, der_prD, seq_lotD, seq_partD, seq_thrD, cE, h3, h4, h9, deq_int, prD, et]
    · have hR3 : ¬ R < 3 := by omega
      have hW2 : ¬ W < 2 := by omega
      have ihs : ∀ (r : Nat), 1 ≤ r → r ≤ 40 → ∀ {st rest : Sto}, Deck st rest → ∃ (p : Pr) (st' : Sto), evCall prg (k + 4 + d) 40 [.loc 1, .int n, .int (De - 1), .int (r : Int)] st = some (prD p, st') ∧ Sub40 n (d + 1) r p ∧ Deck st' rest := fun r hr1 hr2 {st rest} hs => ih r (De - 1) (r : Int) hs (by omega) rfl hr1 hr2 (by omega)
      by_cases h5 : W < 5
      · obtain ⟨m, s2, ed, m0, m1, hs2⟩ := e_drawK (K := k + 4 + d) (by omega) hs1 4 (by omega) (by omega)
        generalize hM : (if R - 1 < m then R - 1 else m) = M
        have M0 : 0 ≤ M := by rw [← hM]; split <;> omega
        have M1 : M ≤ R - 1 := by rw [← hM]; split <;> omega
        have M2 : M < 4 := by rw [← hM]; split <;> omega
        have hdv : (R - 1) / M = (((room - 1) / M.toNat : Nat) : Int) := by
          rw [hR, show (room : Int) - 1 = ((room - 1 : Nat) : Int) by omega, show M = ((M.toNat : Nat) : Int) by omega]
          rw [Int.toNat_natCast]
          exact (Int.natCast_ediv _ _).symm
        have hr1 : 0 < M → 1 ≤ (room - 1) / M.toNat := fun h => by
          rw [Nat.le_div_iff_mul_le (by omega)]
          omega
        have hr2 : (room - 1) / M.toNat ≤ 40 := by
          have := Nat.div_le_self (room - 1) M.toNat
          omega
        obtain ⟨ps, s3, e3, hl, hps, hs3⟩ := subs40 (n := n) (k + 4 + d) (d + 1) ((room - 1) / M.toNat) R De M M0 (by omega) (fun _ => hdv) (fun h => ihs _ (hr1 h) hr2) hs2 (some (.int W)) none none none
        have e3 : evE (cf (k + 4 + d)) q40_2 _ s2 = _ := e3
        refine ⟨.row ps, s3, call_dk (ex := []) (d := d40) (δ := [some (.loc 1), some (.int n), some (.int De), some (.int R), some (.int W), none, none, some (.int M), some (.lst (ps.map prD)), none, none]) hs hs3 rfl rfl ?_ (bel_pr _), ⟨VPrs_mem.mpr fun p hp => (hps p hp).1, ?_, ?_⟩, hs3⟩
        · refine hb.trans ?_
          simp [sl, evSs, evS, evE, evEs, evI, evG, evGs, setAll, wipeD, isD_int, isD_bool, isD_str, isD_tup, kInt_non, kInt_bl, kInt_int, kInt_str, kInt_tup, kInt_lst, kBool_non, kBool_bl, kBool_int, kBool_str, kBool_tup, kBool_lst, kStr_non, kStr_bl, kStr_int, kStr_str, kStr_tup, kStr_lst, kTup_non, kTup_bl, kTup_int, kTup_str, kTup_tup, kTup_lst, atI_0, atI_1, atI_2, atI_3, cop, bop, b1D, b2D, ixD, seq_eq, seqX_tup, seqX_lst, seqX_scr, derL_eq, lstX_lst, der_loc, derLoc_lst, derLoc_dct, der_non, der_bl, der_int, der_str, der_tup, der_lst, der_scr, methD, mkL, D.isNon, D.isBl, oint, E.isSkip, slD, revD, dgetD, isLstS, truD, ints?, bls?, der_lotD, der_partD, der_thrD, der_mD, der_prD, seq_lotD, seq_partD, seq_thrD, cE, hR3, hW2, h5, prD, prDs_map, ed, hM, e3]
        · have := dps_bound fun p hp => (hps p hp).2.1
          simp only [dp]; omega
        · simp only [sz]
          exact many_sz (fun p hp => (hps p hp).2.2) hl rfl h1
      · by_cases h7 : W < 7
        · generalize hB : (if R - 1 < 3 then R - 1 else 3) = B
          have B0 : 2 ≤ B := by rw [← hB]; split <;> omega
          have B1 : B ≤ R - 1 := by rw [← hB]; split <;> omega
          have B2 : B ≤ 3 := by rw [← hB]; split <;> omega
          obtain ⟨m, s2, ed, m0, m1, hs2⟩ := e_drawK (K := k + 4 + d) (by omega) hs1 B (by omega) (by omega)
          generalize hM : 1 + m = M
          have M0 : 1 ≤ M := by omega
          have M1 : M ≤ R - 1 := by omega
          have hdv : (R - 1) / M = (((room - 1) / M.toNat : Nat) : Int) := by
            rw [hR, show (room : Int) - 1 = ((room - 1 : Nat) : Int) by omega, show M = ((M.toNat : Nat) : Int) by omega]
            rw [Int.toNat_natCast]
            exact (Int.natCast_ediv _ _).symm
          have hr1 : 1 ≤ (room - 1) / M.toNat := by
            rw [Nat.le_div_iff_mul_le (by omega)]
            omega
          have hr2 : (room - 1) / M.toNat ≤ 40 := by
            have := Nat.div_le_self (room - 1) M.toNat
            omega
          obtain ⟨ps, s3, e3, hl, hps, hs3⟩ := subs40 (n := n) (k + 4 + d) (d + 1) ((room - 1) / M.toNat) R De M (by omega) (by omega) (fun _ => hdv) (fun h => ihs _ hr1 hr2) hs2 (some (.int W)) none none none
          refine ⟨.choice ps, s3, call_dk (ex := []) (d := d40) (δ := [some (.loc 1), some (.int n), some (.int De), some (.int R), some (.int W), none, none, some (.int M), some (.lst (ps.map prD)), none, none]) hs hs3 rfl rfl ?_ (bel_pr _), ⟨⟨?_, VPrs_mem.mpr fun p hp => (hps p hp).1⟩, ?_, ?_⟩, hs3⟩
          · refine hb.trans ?_
            simp [sl, evSs, evS, evE, evEs, evI, evG, evGs, setAll, wipeD, isD_int, isD_bool, isD_str, isD_tup, kInt_non, kInt_bl, kInt_int, kInt_str, kInt_tup, kInt_lst, kBool_non, kBool_bl, kBool_int, kBool_str, kBool_tup, kBool_lst, kStr_non, kStr_bl, kStr_int, kStr_str, kStr_tup, kStr_lst, kTup_non, kTup_bl, kTup_int, kTup_str, kTup_tup, kTup_lst, atI_0, atI_1, atI_2, atI_3, cop, bop, b1D, b2D, ixD, seq_eq, seqX_tup, seqX_lst, seqX_scr, derL_eq, lstX_lst, der_loc, derLoc_lst, derLoc_dct, der_non, der_bl, der_int, der_str, der_tup, der_lst, der_scr, methD, mkL, D.isNon, D.isBl, oint, E.isSkip, slD, revD, dgetD, isLstS, truD, ints?, bls?, der_lotD, der_partD, der_thrD, der_mD, der_prD, seq_lotD, seq_partD, seq_thrD, cE, hR3, hW2, h5, h7, prD, prDs_map, hB, ed, hM, e3]
          · rintro rfl
            simp at hl
            omega
          · have := dps_bound fun p hp => (hps p hp).2.1
            simp only [dp]; omega
          · simp only [sz]
            exact many_sz (fun p hp => (hps p hp).2.2) hl rfl h1
        · by_cases h77 : W = 7
          · obtain ⟨p, s2, e2, hp, hs2⟩ := ihs (room - 1) (by omega) (by omega) hs1
            rw [show ((room - 1 : Nat) : Int) = R - 1 by omega] at e2
            refine ⟨.often p, s2, call_dk (ex := []) (d := d40) (δ := [some (.loc 1), some (.int n), some (.int De), some (.int R), some (.int W), none, none, none, none, none, none]) hs hs2 rfl rfl ?_ (bel_pr _), ⟨hp.1, ?_, ?_⟩, hs2⟩
            · refine hb.trans ?_
              simp [sl, evSs, evS, evE, evEs, evI, evG, evGs, setAll, wipeD, isD_int, isD_bool, isD_str, isD_tup, kInt_non, kInt_bl, kInt_int, kInt_str, kInt_tup, kInt_lst, kBool_non, kBool_bl, kBool_int, kBool_str, kBool_tup, kBool_lst, kStr_non, kStr_bl, kStr_int, kStr_str, kStr_tup, kStr_lst, kTup_non, kTup_bl, kTup_int, kTup_str, kTup_tup, kTup_lst, atI_0, atI_1, atI_2, atI_3, cop, bop, b1D, b2D, ixD, seq_eq, seqX_tup, seqX_lst, seqX_scr, derL_eq, lstX_lst, der_loc, derLoc_lst, derLoc_dct, der_non, der_bl, der_int, der_str, der_tup, der_lst, der_scr, methD, mkL, D.isNon, D.isBl, oint, E.isSkip, slD, revD, dgetD, isLstS, truD, ints?, bls?, der_lotD, der_partD, der_thrD, der_mD, der_prD, seq_lotD, seq_partD, seq_thrD, cE, hR3, hW2, h5, h7, h77, deq_int, prD, e2]
            · have := hp.2.1
              simp only [dp]; omega
            · have := hp.2.2
              simp only [sz]; omega
          · obtain ⟨ks, s2, ek, hks, hs2⟩ := q40_0_eq (K := k + 4 + d) (by omega) hn hs1 (some (.int De)) (some (.int R)) (some (.int W)) none none none none none
            have hdv : (R - 1) / 2 = (((room - 1) / 2 : Nat) : Int) := by omega
            obtain ⟨p, s3, e3, hp, hs3⟩ := ihs ((room - 1) / 2) (by omega) (by omega) hs2
            obtain ⟨q, s4, e4, hq, hs4⟩ := ihs ((room - 1) / 2) (by omega) (by omega) hs3
            rw [← hdv] at e3 e4
            refine ⟨.parted ks p q, s4, call_dk (ex := []) (d := d40) (δ := [some (.loc 1), some (.int n), some (.int De), some (.int R), some (.int W), some (lotD ks), some (prD p), none, none, none, none]) hs hs4 rfl rfl ?_ (bel_pr _), ⟨⟨sub_kinds hks, hp.1, hq.1⟩, ?_, ?_⟩, hs4⟩
            · refine hb.trans ?_
              have ek : evE (cf (k + 4 + d)) q40_0 _ s1 = _ := ek
              simp [sl, evSs, evS, evE, evEs, evI, evG, evGs, setAll, wipeD, isD_int, isD_bool, isD_str, isD_tup, kInt_non, kInt_bl, kInt_int, kInt_str, kInt_tup, kInt_lst, kBool_non, kBool_bl, kBool_int, kBool_str, kBool_tup, kBool_lst, kStr_non, kStr_bl, kStr_int, kStr_str, kStr_tup, kStr_lst, kTup_non, kTup_bl, kTup_int, kTup_str, kTup_tup, kTup_lst, atI_0, atI_1, atI_2, atI_3, cop, bop, b1D, b2D, ixD, seq_eq, seqX_tup, seqX_lst, seqX_scr, derL_eq, lstX_lst, der_loc, derLoc_lst, derLoc_dct, der_non, der_bl, der_int, der_str, der_tup, der_lst, der_scr, methD, mkL, D.isNon, D.isBl, oint, E.isSkip, slD, revD, dgetD, isLstS, truD, ints?, bls?, der_lotD, der_partD, der_thrD, der_mD, der_prD, seq_lotD, seq_partD, seq_thrD, cE, hR3, hW2, h5, h7, h77, deq_int, prD, ek, e3, e4, lotD]
            · have h1 := hp.2.1
              have h2 := hq.2.1
              simp only [dp]; omega
            · have h1 := hp.2.2
              have h2 := hq.2.2
              simp only [sz]; omega
end K82
set_option Elab.async false
set_option linter.all false
set_option maxRecDepth 100000
set_option maxHeartbeats 4000000
namespace K82
open PySem Ev
/-! ### ways, over the lots -/
def way' : Thr → Int → Int → Mx
  | [], _, _ => mSame
  | x :: t, a, b => if a ∈ x.1 then (if b ∈ x.1 then (if x.2 = 1 then mSame else mTurn) else mAhead) else if b ∈ x.1 then mBehind else way' t a b
theorem way_eq {a b : Int} : ∀ {t : Thr}, a ∈ flat t → b ∈ flat t → wayM t a b = way' t a b
  | [], h, _ => by simp [flat] at h
  | x :: t, ha, hb => by
    have fl : flat (x :: t) = x.1 ++ flat t := by simp [flat]
    rw [fl] at ha hb
    unfold way'
    by_cases h1 : a ∈ x.1
    · rw [if_pos h1]
      by_cases h2 : b ∈ x.1
      · rw [if_pos h2]
        simp [wayM, idx, h1, h2]
      · rw [if_neg h2]
        obtain ⟨j, hj⟩ := idx_some ((List.mem_append.mp hb).resolve_left h2)
        simp [wayM, idx, h1, h2, hj]
    · rw [if_neg h1]
      obtain ⟨i, hi⟩ := idx_some ((List.mem_append.mp ha).resolve_left h1)
      by_cases h2 : b ∈ x.1
      · rw [if_pos h2]
        simp [wayM, idx, h1, h2, hi]
      · rw [if_neg h2]
        obtain ⟨j, hj⟩ := idx_some ((List.mem_append.mp hb).resolve_left h2)
        rw [way_cons h1 h2 hi hj, way_eq ((List.mem_append.mp ha).resolve_left h1) ((List.mem_append.mp hb).resolve_left h2)]
theorem way_append {a b : Int} : ∀ (xs ys : Thr), way' (xs ++ ys) a b = if a ∈ flat xs ∨ b ∈ flat xs then way' xs a b else way' ys a b
  | [], ys => by simp [flat]
  | x :: xs, ys => by
    have fl : flat (x :: xs) = x.1 ++ flat xs := by simp [flat]
    rw [List.cons_append, way', way', way_append xs ys, fl]
    by_cases h1 : a ∈ x.1 <;> by_cases h2 : b ∈ x.1 <;> simp [h1, h2]
theorem way_l {a b : Int} {xs : Thr} (ys : Thr) (h : a ∈ flat xs ∨ b ∈ flat xs) : way' (xs ++ ys) a b = way' xs a b := by rw [way_append, if_pos h]
theorem way_r {a b : Int} {xs : Thr} (ys : Thr) (h1 : a ∉ flat xs) (h2 : b ∉ flat xs) : way' (xs ++ ys) a b = way' ys a b := by rw [way_append, if_neg (fun h => h.elim h1 h2)]
theorem ahead_of {a b : Int} : ∀ {t : Thr}, a ∈ flat t → b ∉ flat t → way' t a b = mAhead
  | [], h, _ => by simp [flat] at h
  | y :: t, h3, h4 => by
    have fc : flat (y :: t) = y.1 ++ flat t := by simp [flat]
    rw [fc, List.mem_append] at h3 h4
    have h5 : b ∉ y.1 := fun z => h4 (.inl z)
    unfold way'
    by_cases h6 : a ∈ y.1
    · rw [if_pos h6, if_neg h5]
    · rw [if_neg h6, if_neg h5]
      exact ahead_of (h3.resolve_left h6) (fun z => h4 (.inr z))
theorem behind_of {a b : Int} : ∀ {t : Thr}, a ∉ flat t → b ∈ flat t → way' t a b = mBehind
  | [], _, h => by simp [flat] at h
  | y :: t, h3, h4 => by
    have fc : flat (y :: t) = y.1 ++ flat t := by simp [flat]
    rw [fc, List.mem_append] at h3 h4
    have h5 : a ∉ y.1 := fun z => h3 (.inl z)
    unfold way'
    rw [if_neg h5]
    by_cases h6 : b ∈ y.1
    · rw [if_pos h6]
    · rw [if_neg h6]
      exact behind_of (fun z => h3 (.inr z)) (h4.resolve_left h6)
def mFlip (m : Mx) : Mx := ⟨m.b, m.a, m.d, m.c⟩
theorem flip_thn (m : Mx) : m.thn mTurn = mFlip m := by
  obtain ⟨a, b, c, d⟩ := m
  simp [Mx.thn, mTurn, mFlip]
/-- no kind lies in two lots -/
def Dis : Thr → Prop
  | [] => True
  | x :: t => (∀ k ∈ x.1, k ∉ flat t) ∧ Dis t
theorem flat_app (xs ys : Thr) : flat (xs ++ ys) = flat xs ++ flat ys := by simp [flat]
theorem flat_cons (x : List Int × Int) (t : Thr) : flat (x :: t) = x.1 ++ flat t := by simp [flat]
theorem flat_rev (k : Int) : ∀ t : Thr, k ∈ flat t.reverse ↔ k ∈ flat t
  | [] => Iff.rfl
  | x :: t => by
    have e : flat [x] = x.1 := by simp [flat]
    rw [List.reverse_cons, flat_app, flat_cons x t, List.mem_append, List.mem_append, flat_rev k t, e]
    exact Or.comm
/-- the lots turned about, and their signs -/
def tback (t : Thr) : Thr := (t.map fun x => (x.1, -x.2)).reverse
theorem flat_neg (t : Thr) : flat (t.map fun x => (x.1, -x.2)) = flat t := by
  unfold flat
  rw [List.map_map]
  rfl
theorem back_mem (k : Int) (t : Thr) : k ∈ flat (tback t) ↔ k ∈ flat t := by
  unfold tback
  rw [flat_rev, flat_neg]
theorem way_back {a b : Int} : ∀ {t : Thr}, Dis t → (∀ x ∈ t, x.2 = 1 ∨ x.2 = -1) → a ∈ flat t → b ∈ flat t → way' (tback t) a b = mFlip (way' t a b)
  | [], _, _, h, _ => by simp [flat] at h
  | x :: t, hd, hs, ha, hb => by
    have e : tback (x :: t) = tback t ++ [(x.1, -x.2)] := by simp [tback]
    rw [e]
    rw [flat_cons, List.mem_append] at ha hb
    by_cases h1 : a ∈ x.1
    · have h1' : a ∉ flat (tback t) := fun z => hd.1 a h1 ((back_mem a t).mp z)
      by_cases h2 : b ∈ x.1
      · have h2' : b ∉ flat (tback t) := fun z => hd.1 b h2 ((back_mem b t).mp z)
        rw [way_r _ h1' h2']
        rcases hs x List.mem_cons_self with h | h <;> simp [h1, h2, h, way', mFlip, mSame, mTurn]
      · have h2' : b ∈ flat (tback t) := (back_mem b t).mpr (hb.resolve_left h2)
        rw [way_l _ (.inr h2'), behind_of h1' h2']
        simp [way', h1, h2, mFlip, mBehind, mAhead]
    · have h1' : a ∈ flat (tback t) := (back_mem a t).mpr (ha.resolve_left h1)
      by_cases h2 : b ∈ x.1
      · have h2' : b ∉ flat (tback t) := fun z => hd.1 b h2 ((back_mem b t).mp z)
        rw [way_l _ (.inl h1'), ahead_of h1' h2']
        simp [way', h1, h2, mFlip, mBehind, mAhead]
      · have ih := way_back (t := t) (a := a) (b := b) hd.2 (fun y hy => hs y (List.mem_cons_of_mem _ hy)) (ha.resolve_left h1) (hb.resolve_left h2)
        rw [way_l _ (.inl h1'), ih]
        simp [way', h1, h2]
/-! ### one throw behind another -/
def cutL (l : List Int) (x : List Int × Int) : List Int := x.1.filter fun k => decide (k ∈ l)
def piecesT (one : Thr) (l : List Int) (s : Int) : Thr := (one.filter fun x => decide (cutL l x ≠ [])).map fun x => (cutL l x, x.2 * s)
def laidT (one : Thr) (y : List Int × Int) : Thr := if y.2 = 1 then piecesT one y.1 y.2 else (piecesT one y.1 y.2).reverse
def bothT (one other : Thr) : Thr := other.flatMap (laidT one)
theorem pieces_cons (x : List Int × Int) (one : Thr) (l : List Int) (s : Int) : piecesT (x :: one) l s = (if cutL l x ≠ [] then [(cutL l x, x.2 * s)] else []) ++ piecesT one l s := by
  unfold piecesT
  by_cases h : cutL l x = []
  · simp [h]
  · simp [h]
theorem pieces_mem {k : Int} {l : List Int} {s : Int} : ∀ {one : Thr}, k ∈ flat (piecesT one l s) ↔ k ∈ flat one ∧ k ∈ l
  | [] => by simp [piecesT, flat]
  | x :: one => by
    rw [pieces_cons, flat_app, flat_cons, List.mem_append, List.mem_append, pieces_mem]
    have : k ∈ flat (if cutL l x ≠ [] then [(cutL l x, x.2 * s)] else []) ↔ k ∈ x.1 ∧ k ∈ l := by
      have h0 : k ∈ cutL l x ↔ k ∈ x.1 ∧ k ∈ l := by simp [cutL]
      by_cases h : cutL l x = []
      · rw [h] at h0
        simp [h, flat]
        simpa using h0
      · simp [h, flat, h0]
    rw [this]
    constructor
    · rintro (⟨a, b⟩ | ⟨a, b⟩)
      · exact ⟨.inl a, b⟩
      · exact ⟨.inr a, b⟩
    · rintro ⟨a | a, b⟩
      · exact .inl ⟨a, b⟩
      · exact .inr ⟨a, b⟩
theorem laid_mem {k : Int} {one : Thr} {y : List Int × Int} : k ∈ flat (laidT one y) ↔ k ∈ flat one ∧ k ∈ y.1 := by
  unfold laidT
  split
  · exact pieces_mem
  · rw [flat_rev]; exact pieces_mem
theorem pieces_way {a b : Int} {l : List Int} {s : Int} (hs : s = 1 ∨ s = -1) (ha : a ∈ l) (hb : b ∈ l) : ∀ {one : Thr}, (∀ x ∈ one, x.2 = 1 ∨ x.2 = -1) → way' (piecesT one l s) a b = way' (one.map fun x => (x.1, x.2 * s)) a b
  | [], _ => rfl
  | x :: one, h => by
    have ih := pieces_way hs ha hb (one := one) fun y hy => h y (List.mem_cons_of_mem _ hy)
    rw [pieces_cons, List.map_cons]
    have m1 : a ∈ cutL l x ↔ a ∈ x.1 := by simp [cutL, ha]
    have m2 : b ∈ cutL l x ↔ b ∈ x.1 := by simp [cutL, hb]
    by_cases hc : cutL l x = []
    · rw [hc] at m1 m2
      have n1 : a ∉ x.1 := fun z => by have := m1.mpr z; simp at this
      have n2 : b ∉ x.1 := fun z => by have := m2.mpr z; simp at this
      simp [hc, way', n1, n2, ih]
    · simp [hc, way', m1, m2, ih]
theorem way_sgn (t : Thr) (a b : Int) : way' (t.map fun x => (x.1, x.2 * 1)) a b = way' t a b := by
  simp
theorem map_neg (t : Thr) : (t.map fun x => (x.1, x.2 * -1)) = t.map fun x => (x.1, -x.2) := by
  apply List.map_congr_left
  intro x _
  rw [Int.mul_neg, Int.mul_one]
theorem rev_neg (t : Thr) : (t.map fun x => (x.1, -x.2)).reverse = tback t := rfl
theorem pieces_neg (one : Thr) (l : List Int) : (piecesT one l (-1)).reverse = tback (piecesT one l 1) := by
  unfold tback piecesT
  rw [List.map_map]
  congr 1
  apply List.map_congr_left
  intro x _
  show (cutL l x, x.2 * -1) = (cutL l x, -(x.2 * 1))
  rw [Int.mul_neg]
theorem Dis_pieces {l : List Int} {s : Int} : ∀ {one : Thr}, Dis one → Dis (piecesT one l s)
  | [], _ => trivial
  | x :: one, h => by
    have ih := Dis_pieces (l := l) (s := s) h.2
    rw [pieces_cons]
    by_cases hc : cutL l x = []
    · simpa [hc] using ih
    · rw [if_pos hc]
      refine ⟨fun k hk hk2 => ?_, ih⟩
      have h1 : k ∈ x.1 := by
        have hk : k ∈ cutL l x := hk
        simp [cutL] at hk
        exact hk.1
      exact h.1 k h1 (pieces_mem.mp hk2).1
theorem pieces_sgn {l : List Int} {one : Thr} (h : ∀ x ∈ one, x.2 = 1 ∨ x.2 = -1) : ∀ x ∈ piecesT one l 1, x.2 = 1 ∨ x.2 = -1 := by
  intro x hx
  obtain ⟨y, hy, rfl⟩ := List.mem_map.mp hx
  have := h y (List.mem_filter.mp hy).1
  show y.2 * 1 = 1 ∨ y.2 * 1 = -1
  rw [Int.mul_one]
  exact this
theorem way_cases {a b : Int} : ∀ {t : Thr}, way' t a b = mSame ∨ way' t a b = mTurn ∨ way' t a b = mAhead ∨ way' t a b = mBehind
  | [] => .inl rfl
  | x :: t => by
    unfold way'
    split
    · split
      · split
        · exact .inl rfl
        · exact .inr (.inl rfl)
      · exact .inr (.inr (.inl rfl))
    · split
      · exact .inr (.inr (.inr rfl))
      · exact way_cases
theorem way_both {a b : Int} {one : Thr} (hd : Dis one) (hs : ∀ x ∈ one, x.2 = 1 ∨ x.2 = -1) (ha : a ∈ flat one) (hb : b ∈ flat one) : ∀ {other : Thr}, (∀ x ∈ other, x.2 = 1 ∨ x.2 = -1) → a ∈ flat other → b ∈ flat other → way' (bothT one other) a b = (way' one a b).thn (way' other a b)
  | [], _, h, _ => by simp [flat] at h
  | y :: other, ho, h1, h2 => by
    have e : bothT one (y :: other) = laidT one y ++ bothT one other := by simp [bothT]
    rw [e]
    rw [flat_cons, List.mem_append] at h1 h2
    by_cases m1 : a ∈ y.1
    · by_cases m2 : b ∈ y.1
      · rw [way_l _ (.inl (laid_mem.mpr ⟨ha, m1⟩))]
        have w : way' (y :: other) a b = if y.2 = 1 then mSame else mTurn := by simp [way', m1, m2]
        rw [w]
        unfold laidT
        rcases ho y List.mem_cons_self with hy | hy
        · rw [if_pos hy, if_pos hy, thn_same, hy, pieces_way (.inl rfl) m1 m2 hs, way_sgn]
        · have hy1 : ¬ y.2 = 1 := by omega
          rw [if_neg hy1, if_neg hy1, flip_thn, hy, pieces_neg, way_back (Dis_pieces hd) (pieces_sgn hs) (pieces_mem.mpr ⟨ha, m1⟩) (pieces_mem.mpr ⟨hb, m2⟩), pieces_way (.inl rfl) m1 m2 hs, way_sgn]
      · have w : way' (y :: other) a b = mAhead := by simp [way', m1, m2]
        rw [way_l _ (.inl (laid_mem.mpr ⟨ha, m1⟩)), w, ahead_of (laid_mem.mpr ⟨ha, m1⟩) (fun z => m2 (laid_mem.mp z).2)]
        rcases way_cases (t := one) (a := a) (b := b) with h | h | h | h <;> rw [h] <;> rfl
    · by_cases m2 : b ∈ y.1
      · have w : way' (y :: other) a b = mBehind := by simp [way', m1, m2]
        rw [way_l _ (.inr (laid_mem.mpr ⟨hb, m2⟩)), w, behind_of (fun z => m1 (laid_mem.mp z).2) (laid_mem.mpr ⟨hb, m2⟩)]
        rcases way_cases (t := one) (a := a) (b := b) with h | h | h | h <;> rw [h] <;> rfl
      · have w : way' (y :: other) a b = way' other a b := by simp [way', m1, m2]
        rw [way_r _ (fun z => m1 (laid_mem.mp z).2) (fun z => m2 (laid_mem.mp z).2), w]
        exact way_both hd hs ha hb (fun x hx => ho x (List.mem_cons_of_mem _ hx)) (h1.resolve_left m1) (h2.resolve_left m2)
/-! ### it is a throw -/
theorem count_lot {n : Nat} {x : List Int × Int} (h : VLot n x) (k : Int) : x.1.count k = if k ∈ x.1 then 1 else 0 := by
  have nd : x.1.Nodup := h.2.2.1.imp fun h => by omega
  exact nd.count
theorem count_pieces (k : Int) (l : List Int) (s : Int) : ∀ one : Thr, (flat (piecesT one l s)).count k = if k ∈ l then (flat one).count k else 0
  | [] => by simp [piecesT, flat]
  | x :: one => by
    rw [pieces_cons, flat_app, flat_cons, List.count_append, List.count_append, count_pieces k l s one]
    have : (flat (if cutL l x ≠ [] then [(cutL l x, x.2 * s)] else [])).count k = if k ∈ l then x.1.count k else 0 := by
      have h0 : (cutL l x).count k = if k ∈ l then x.1.count k else 0 := by
        unfold cutL
        by_cases hk : k ∈ l
        · rw [if_pos hk, List.count_filter (by simpa using hk)]
        · rw [if_neg hk, List.count_eq_zero]
          intro z
          simp at z
          exact hk z.2
      by_cases h : cutL l x = []
      · rw [h] at h0
        simp [h, flat]
        simpa using h0
      · simp [h, flat, h0]
    rw [this]
    split <;> omega
theorem count_rev (k : Int) : ∀ t : Thr, (flat t.reverse).count k = (flat t).count k
  | [] => rfl
  | x :: t => by
    rw [List.reverse_cons, flat_app, flat_cons x t, List.count_append, List.count_append, count_rev k t]
    simp [flat]; omega
theorem count_both {n : Nat} (k : Int) (one : Thr) : ∀ {other : Thr}, (∀ x ∈ other, VLot n x) → (flat (bothT one other)).count k = (flat one).count k * (flat other).count k
  | [], _ => by simp [bothT, flat]
  | y :: other, h => by
    have e : bothT one (y :: other) = laidT one y ++ bothT one other := by simp [bothT]
    rw [e, flat_app, List.count_append, count_both k one fun x hx => h x (List.mem_cons_of_mem _ hx), flat_cons, List.count_append, Nat.mul_add, count_lot (h y List.mem_cons_self)]
    congr 1
    have : (flat (laidT one y)).count k = (flat (piecesT one y.1 y.2)).count k := by
      unfold laidT
      split
      · rfl
      · exact count_rev k _
    rw [this, count_pieces]
    split <;> simp
theorem Dis_of {n : Nat} {t : Thr} (h : VThr n t) : Dis t := by
  have nd : (flat t).Nodup := h.perm.symm.nodup (by
    unfold rgI
    rw [List.nodup_iff_pairwise_ne, List.pairwise_map]
    exact List.pairwise_lt_range.imp fun h => by omega)
  have : ∀ t : Thr, (flat t).Nodup → Dis t := by
    intro t
    induction t with
    | nil => intro _; trivial
    | cons x t ih =>
      intro h
      rw [flat_cons, List.nodup_append] at h
      exact ⟨fun k hk hk2 => h.2.2 k hk k hk2 rfl, ih h.2.1⟩
  exact this t nd
theorem VThr_both {n : Nat} {one other : Thr} (h1 : VThr n one) (h2 : VThr n other) : VThr n (bothT one other) where
  lot := by
    intro x hx
    obtain ⟨y, hy, hxy⟩ := List.mem_flatMap.mp hx
    have hx2 : x ∈ piecesT one y.1 y.2 := by
      unfold laidT at hxy
      split at hxy
      · exact hxy
      · exact List.mem_reverse.mp hxy
    obtain ⟨z, hz, rfl⟩ := List.mem_map.mp hx2
    obtain ⟨hz1, hz2⟩ := List.mem_filter.mp hz
    obtain ⟨a, b, c, d⟩ := h1.lot z hz1
    refine ⟨?_, by simpa using hz2, c.filter _, fun k hk => d k (List.mem_filter.mp hk).1⟩
    show z.2 * y.2 = 1 ∨ z.2 * y.2 = -1
    rcases a with a | a <;> rcases (h2.lot y hy).1 with e | e <;> rw [a, e] <;> decide
  perm := by
    show (flat (bothT one other)).Perm (rgI n)
    rw [List.perm_iff_count]
    intro k
    rw [count_both (n := n) k one h2.lot]
    have c1 : (flat one).count k = (rgI n).count k := (List.perm_iff_count.mp h1.perm) k
    have c2 : (flat other).count k = (rgI n).count k := (List.perm_iff_count.mp h2.perm) k
    rw [c1, c2]
    have nd : (rgI n).Nodup := by
      unfold rgI
      rw [List.nodup_iff_pairwise_ne, List.pairwise_map]
      exact List.pairwise_lt_range.imp fun h => by omega
    rw [nd.count]
    split <;> rfl
theorem wayM_both {n : Nat} {one other : Thr} (h1 : VThr n one) (h2 : VThr n other) {a b : Int} (ha : Rn n a) (hb : Rn n b) : wayM (bothT one other) a b = (wayM one a b).thn (wayM other a b) := by
  have a1 := in_flat h1 ha.1 ha.2
  have b1 := in_flat h1 hb.1 hb.2
  have a2 := in_flat h2 ha.1 ha.2
  have b2 := in_flat h2 hb.1 hb.2
  have h3 := VThr_both h1 h2
  rw [way_eq (in_flat h3 ha.1 ha.2) (in_flat h3 hb.1 hb.2), way_eq a1 b1, way_eq a2 b2]
  exact way_both (Dis_of h1) (fun x hx => (h1.lot x hx).1) a1 b1 (fun x hx => (h2.lot x hx).1) a2 b2
/-! ### still, powers, rows -/
def stillT (n : Nat) : Thr := [(rgI n, 1)]
theorem VThr_still {n : Nat} (h1 : 1 ≤ n) : VThr n (stillT n) where
  lot := by
    intro x hx
    rw [List.mem_singleton.mp hx]
    refine ⟨.inl rfl, ?_, ?_, fun k hk => rgI_mem.mp hk⟩
    · intro z
      have := congrArg List.length z
      simp [rgI] at this
      omega
    · show (rgI n).Pairwise (· < ·)
      unfold rgI
      rw [List.pairwise_map]
      exact List.pairwise_lt_range.imp fun h => by omega
  perm := by simp [stillT]
theorem wayM_still {n : Nat} {a b : Int} (ha : Rn n a) (hb : Rn n b) : wayM (stillT n) a b = mSame := by
  have h1 : a ∈ rgI n := rgI_mem.mpr ha
  have h2 : b ∈ rgI n := rgI_mem.mpr hb
  simp [wayM, stillT, idx, h1, h2]
def evenT (t : Thr) : Thr := t.map fun x => (x.1, 1)
theorem VThr_even {n : Nat} {t : Thr} (h : VThr n t) : VThr n (evenT t) where
  lot := by
    intro x hx
    obtain ⟨y, hy, rfl⟩ := List.mem_map.mp hx
    obtain ⟨_, b, c, d⟩ := h.lot y hy
    exact ⟨.inl rfl, b, c, d⟩
  perm := by
    have : (evenT t).map (·.1) = t.map (·.1) := by simp [evenT]
    rw [this]
    exact h.perm
theorem way_even (a b : Int) : ∀ t : Thr, way' (evenT t) a b = (way' t a b).thn (way' t a b)
  | [] => rfl
  | x :: t => by
    have ih := way_even a b t
    show way' ((x.1, 1) :: evenT t) a b = _
    unfold way'
    rw [ih]
    by_cases h1 : a ∈ x.1 <;> by_cases h2 : b ∈ x.1
    · by_cases h3 : x.2 = 1
      · simp [h1, h2, h3]; rfl
      · simp [h1, h2, h3]; rfl
    · simp [h1, h2]; rfl
    · simp [h1, h2]; rfl
    · simp [h1, h2]
theorem wayM_even {n : Nat} {t : Thr} (h : VThr n t) {a b : Int} (ha : Rn n a) (hb : Rn n b) : wayM (evenT t) a b = (wayM t a b).thn (wayM t a b) := by
  have h3 := VThr_even h
  rw [way_eq (in_flat h3 ha.1 ha.2) (in_flat h3 hb.1 hb.2), way_eq (in_flat h ha.1 ha.2) (in_flat h hb.1 hb.2), way_even]
def rowT (n : Nat) (ts : List Thr) : Thr := ts.foldl bothT (stillT n)
theorem VThr_row {n : Nat} : ∀ {ts : List Thr} {t : Thr}, VThr n t → (∀ u ∈ ts, VThr n u) → VThr n (ts.foldl bothT t)
  | [], _, h, _ => h
  | u :: ts, t, h, hs => VThr_row (ts := ts) (t := bothT t u) (VThr_both h (hs u List.mem_cons_self)) fun v hv => hs v (List.mem_cons_of_mem _ hv)
theorem wayM_row {n : Nat} {a b : Int} (ha : Rn n a) (hb : Rn n b) : ∀ {ts : List Thr} {t : Thr}, VThr n t → (∀ u ∈ ts, VThr n u) → wayM (ts.foldl bothT t) a b = (ts.map fun u => wayM u a b).foldl Mx.thn (wayM t a b)
  | [], _, _, _ => rfl
  | u :: ts, t, h, hs => by
    rw [List.foldl_cons, wayM_row ha hb (VThr_both h (hs u List.mem_cons_self)) fun v hv => hs v (List.mem_cons_of_mem _ hv), wayM_both h (hs u List.mem_cons_self) ha hb]
    rfl
end K82
set_option Elab.async false
set_option linter.all false
set_option maxRecDepth 100000
set_option maxHeartbeats 4000000
namespace K82
open PySem Ev
/-! ### 28 -/
theorem mid_get (st : Sto) (x : SO) (G : Sto) : (st ++ x :: G)[st.length]? = some x := by simp
theorem mid_set (st : Sto) (x y : SO) (G : Sto) : (st ++ x :: G).set st.length y = st ++ y :: G := by
  rw [List.set_append_right _ _ (Nat.le_refl _)]
  simp
theorem p64s {s : Int} (h : s = 1 ∨ s = -1) : P64 s = true := by rcases h with rfl | rfl <;> decide +kernel
theorem q28_0_eq (k : Nat) (l m : List Int) (hm : m.length ≤ LIM) (st : Sto) (e0 e1 e2 e4 e5 e7 e8 : Option D) : evE (cf k) q28_0 [e0, e1, e2, some (lotD l), e4, e5, some (lotD m), e7, e8, none] st = some (.lst ((m.filter fun k => decide (k ∈ l)).map D.int), st) := by
  refine evE_comp (w := ⟨m.map D.int, keeps (lotD m) (m.map D.int)⟩) rfl (evC_filterL D.int D.int (fun k => decide (k ∈ l)) rfl fun i hi => ⟨_, rfl, by simp [sl, evSs, evS, evE, evEs, evI, evG, evGs, setAll, wipeD, isD_int, isD_bool, isD_str, isD_tup, kInt_non, kInt_bl, kInt_int, kInt_str, kInt_tup, kInt_lst, kBool_non, kBool_bl, kBool_int, kBool_str, kBool_tup, kBool_lst, kStr_non, kStr_bl, kStr_int, kStr_str, kStr_tup, kStr_lst, kTup_non, kTup_bl, kTup_int, kTup_str, kTup_tup, kTup_lst, atI_0, atI_1, atI_2, atI_3, cop, bop, b1D, b2D, ixD, seq_eq, seqX_tup, seqX_lst, seqX_scr, derL_eq, lstX_lst, der_loc, derLoc_lst, derLoc_dct, der_non, der_bl, der_int, der_str, der_tup, der_lst, der_scr, methD, mkL, D.isNon, D.isBl, oint, E.isSkip, slD, revD, dgetD, isLstS, truD, ints?, bls?, der_lotD, der_partD, der_thrD, der_mD, der_prD, seq_lotD, seq_partD, seq_thrD, inD_ints], fun _ => by simp [sl, evSs, evS, evE, evEs, evI, evG, evGs, setAll, wipeD, isD_int, isD_bool, isD_str, isD_tup, kInt_non, kInt_bl, kInt_int, kInt_str, kInt_tup, kInt_lst, kBool_non, kBool_bl, kBool_int, kBool_str, kBool_tup, kBool_lst, kStr_non, kStr_bl, kStr_int, kStr_str, kStr_tup, kStr_lst, kTup_non, kTup_bl, kTup_int, kTup_str, kTup_tup, kTup_lst, atI_0, atI_1, atI_2, atI_3, cop, bop, b1D, b2D, ixD, seq_eq, seqX_tup, seqX_lst, seqX_scr, derL_eq, lstX_lst, der_loc, derLoc_lst, derLoc_dct, der_non, der_bl, der_int, der_str, der_tup, der_lst, der_scr, methD, mkL, D.isNon, D.isBl, oint, E.isSkip, slD, revD, dgetD, isLstS, truD, ints?, bls?, der_lotD, der_partD, der_thrD, der_mD, der_prD, seq_lotD, seq_partD, seq_thrD]⟩) (mkL_ok ?_)
  rw [List.length_map]
  exact Nat.le_trans (List.length_filter_le _ _) hm
theorem f28_in (k : Nat) (l : List Int) (s : Int) (hs : s = 1 ∨ s = -1) (S0 : Sto) (p : Nat) (hp : S0.length = p) (ok : Sto → Bool) (hok : ∀ s, ok s = true) (e0 e1 e2 : Option D) : ∀ (one acc : Thr) (a b c : Option D), (∀ x ∈ one, x.1.length ≤ 1000) → acc.length + one.length ≤ 1000 →
    ∃ a' b' c', evFor (evG (.tup [.name 6, .name 7])) (evSs (cf k) l28_0) ok (one.map partD) [e0, e1, e2, some (lotD l), some (.int s), some (.loc p), a, b, c, none] (S0 ++ [.lst (acc.map partD)]) = some (.nx, [e0, e1, e2, some (lotD l), some (.int s), some (.loc p), a', b', c', none], S0 ++ [.lst ((acc ++ piecesT one l s).map partD)])
  | [], acc, a, b, c, _, _ => ⟨a, b, c, by simp [evFor, hok, piecesT]⟩
  | x :: one, acc, a, b, c, hx, hl => by
    rw [List.length_cons] at hl
    have hxl := hx x List.mem_cons_self
    have lim : x.1.length ≤ LIM := by unfold LIM; omega
    have q := q28_0_eq k l x.1 lim (S0 ++ [.lst (acc.map partD)]) e0 e1 e2 (some (.int s)) (some (.loc p)) (some (.int x.2)) c
    have d := deq_lots (cutL l x) []
    have pm := p64s hs
    have la : acc.length < LIM := by unfold LIM; omega
    obtain ⟨a', b', c', ih⟩ := f28_in k l s hs S0 p hp ok hok e0 e1 e2 one (acc ++ (if cutL l x ≠ [] then [(cutL l x, x.2 * s)] else [])) (some (lotD x.1)) (some (.int x.2)) (some (lotD (cutL l x))) (fun y hy => hx y (List.mem_cons_of_mem _ hy)) (by
      rw [List.length_append]
      split <;> simp <;> omega)
    refine ⟨a', b', c', ?_⟩
    rw [pieces_cons, ← List.append_assoc, ← ih, List.map_cons]
    refine evFor_cons (hok _) (δ1 := [e0, e1, e2, some (lotD l), some (.int s), some (.loc p), some (lotD x.1), some (.int x.2), c, none]) (by simp [evG, evGs, partD]) ?_
    subst hp
    have hc : (x.1.filter fun k => decide (k ∈ l)) = cutL l x := rfl
    rw [hc] at q
    simp only [lotD] at d q ⊢
    by_cases hz : cutL l x = []
    · simp only [hz, List.map_nil] at d q ⊢
      simp [l28_0, sl, evSs, evS, evE, evEs, evI, evG, evGs, setAll, wipeD, isD_int, isD_bool, isD_str, isD_tup, kInt_non, kInt_bl, kInt_int, kInt_str, kInt_tup, kInt_lst, kBool_non, kBool_bl, kBool_int, kBool_str, kBool_tup, kBool_lst, kStr_non, kStr_bl, kStr_int, kStr_str, kStr_tup, kStr_lst, kTup_non, kTup_bl, kTup_int, kTup_str, kTup_tup, kTup_lst, atI_0, atI_1, atI_2, atI_3, cop, bop, b1D, b2D, ixD, seq_eq, seqX_tup, seqX_lst, seqX_scr, derL_eq, lstX_lst, der_loc, derLoc_lst, derLoc_dct, der_non, der_bl, der_int, der_str, der_tup, der_lst, der_scr, methD, mkL, D.isNon, D.isBl, oint, E.isSkip, slD, revD, dgetD, isLstS, truD, ints?, bls?, der_lotD, der_partD, der_thrD, der_mD, der_prD, seq_lotD, seq_partD, seq_thrD, q, d]
    · simp only [hz, decide_false] at d
      simp only [List.map_nil] at d
      generalize hzz : cutL l x = z at *
      simp [l28_0, sl, evSs, evS, evE, evEs, evI, evG, evGs, setAll, wipeD, isD_int, isD_bool, isD_str, isD_tup, kInt_non, kInt_bl, kInt_int, kInt_str, kInt_tup, kInt_lst, kBool_non, kBool_bl, kBool_int, kBool_str, kBool_tup, kBool_lst, kStr_non, kStr_bl, kStr_int, kStr_str, kStr_tup, kStr_lst, kTup_non, kTup_bl, kTup_int, kTup_str, kTup_tup, kTup_lst, atI_0, atI_1, atI_2, atI_3, cop, bop, b1D, b2D, ixD, seq_eq, seqX_tup, seqX_lst, seqX_scr, derL_eq, lstX_lst, der_loc, derLoc_lst, derLoc_dct, der_non, der_bl, der_int, der_str, der_tup, der_lst, der_scr, methD, mkL, D.isNon, D.isBl, oint, E.isSkip, slD, revD, dgetD, isLstS, truD, ints?, bls?, der_lotD, der_partD, der_thrD, der_mD, der_prD, seq_lotD, seq_partD, seq_thrD, q, d, pm, get_last, set_last, la, hz, partD, lotD]
def lenT (t : Thr) : Prop := t.length ≤ 1000 ∧ ∀ x ∈ t, x.1.length ≤ 1000
theorem pieces_len (one : Thr) (l : List Int) (s : Int) : (piecesT one l s).length ≤ one.length := by
  unfold piecesT
  rw [List.length_map]
  exact List.length_filter_le _ _
theorem laid_len (one : Thr) (y : List Int × Int) : (laidT one y).length ≤ one.length := by
  unfold laidT
  split
  · exact pieces_len _ _ _
  · rw [List.length_reverse]; exact pieces_len _ _ _
theorem f28_out (k : Nat) (one : Thr) (h1 : lenT one) (st : Sto) (p : Nat) (hp : st.length = p) (ok : Sto → Bool) (hok : ∀ s, ok s = true) (e1 : Option D) : ∀ (other acc : Thr) (G : Sto) (a3 a4 a5 a6 a7 a8 : Option D), (∀ x ∈ other, x.2 = 1 ∨ x.2 = -1) → acc.length + other.length * one.length ≤ 1000 →
    ∃ δ' G', evFor (evG (.tup [.name 3, .name 4])) (evSs (cf k) l28_1) ok (other.map partD) [some (thrD one), e1, some (.loc p), a3, a4, a5, a6, a7, a8, none] (st ++ .lst (acc.map partD) :: G) = some (.nx, δ', st ++ .lst ((acc ++ bothT one other).map partD) :: G') ∧ δ'[2]? = some (some (.loc p))
  | [], acc, G, a3, a4, a5, a6, a7, a8, _, _ => ⟨_, G, by simp [evFor, hok, bothT]; rfl, rfl⟩
  | y :: other, acc, G, a3, a4, a5, a6, a7, a8, hy, hl => by
    have e : bothT one (y :: other) = laidT one y ++ bothT one other := by simp [bothT]
    have hll := laid_len one y
    rw [List.length_cons, Nat.succ_mul] at hl
    obtain ⟨b6, b7, b8, fin⟩ := f28_in k y.1 y.2 (hy y List.mem_cons_self) (st ++ .lst (acc.map partD) :: G) _ rfl (keeps (thrD one) (one.map partD)) (fun _ => rfl) (some (thrD one)) e1 (some (.loc p)) one [] a6 a7 a8 h1.2 (by have := h1.1; simp; omega)
    obtain ⟨δ', G', ih, ih2⟩ := f28_out k one h1 st p hp ok hok e1 other (acc ++ laidT one y) (G ++ [.lst ((piecesT one y.1 y.2).map partD)]) (some (lotD y.1)) (some (.int y.2)) (some (.loc (st ++ .lst (acc.map partD) :: G).length)) b6 b7 b8 (fun x hx => hy x (List.mem_cons_of_mem _ hx)) (by rw [List.length_append]; omega)
    refine ⟨δ', G', ?_, ih2⟩
    rw [e, ← List.append_assoc, ← ih, List.map_cons]
    refine evFor_cons (hok _) (δ1 := [some (thrD one), e1, some (.loc p), some (lotD y.1), some (.int y.2), a5, a6, a7, a8, none]) (by simp [evG, evGs, partD]) ?_
    have lim0 : 0 ≤ LIM := by unfold LIM; omega
    have f : evS (cf k) f28_0 [some (thrD one), e1, some (.loc p), some (lotD y.1), some (.int y.2), some (.loc (st ++ .lst (acc.map partD) :: G).length), a6, a7, a8, none] ((st ++ .lst (acc.map partD) :: G) ++ [.lst []]) = _ := evS_for (st1 := (st ++ .lst (acc.map partD) :: G) ++ [.lst []]) (w := ⟨one.map partD, keeps (thrD one) (one.map partD)⟩) rfl fin
    have hlp := pieces_len one y.1 y.2
    have h1l := h1.1
    have la : acc.length + (piecesT one y.1 y.2).length ≤ LIM := by unfold LIM; omega
    have la2 : (piecesT one y.1 y.2).length ≤ LIM := by unfold LIM; omega
    have d1 := deq_int y.2 1
    simp only [List.nil_append] at f
    have g1 : ((st ++ .lst (acc.map partD) :: G) ++ [.lst ((piecesT one y.1 y.2).map partD)])[(st ++ .lst (acc.map partD) :: G).length]? = some (.lst ((piecesT one y.1 y.2).map partD)) := get_last _ _
    have g2 : ((st ++ .lst (acc.map partD) :: G) ++ [.lst ((piecesT one y.1 y.2).map partD)])[p]? = some (.lst (acc.map partD)) := by
      rw [← hp, List.append_assoc]
      exact mid_get _ _ _
    have g3 : ∀ z : SO, ((st ++ SO.lst (acc.map partD) :: G) ++ [SO.lst ((piecesT one y.1 y.2).map partD)]).set p z = st ++ z :: (G ++ [SO.lst ((piecesT one y.1 y.2).map partD)]) := fun z => by
      rw [← hp, List.append_assoc]
      exact mid_set _ _ _ _
    have hlaid : (acc ++ laidT one y).map partD = acc.map partD ++ (if y.2 = 1 then (piecesT one y.1 y.2).map partD else ((piecesT one y.1 y.2).map partD).reverse) := by
      rw [List.map_append]
      unfold laidT
      split
      · rfl
      · rw [List.map_reverse]
    rw [hlaid]
    have la' : (acc.map partD).length + ((piecesT one y.1 y.2).map partD).length ≤ LIM := by rw [List.length_map, List.length_map]; exact la
    have la2' : ((piecesT one y.1 y.2).map partD).length ≤ LIM := by rw [List.length_map]; exact la2
    generalize (piecesT one y.1 y.2).map partD = zs at *
    generalize acc.map partD = ac at *
    generalize (st ++ .lst ac :: G) = S0 at *
    rw [← g3]
    by_cases hy1 : y.2 = 1
    · simp only [hy1] at f ⊢
      simp [l28_1, sl, evSs, evS, evE, evEs, evI, evG, evGs, setAll, wipeD, isD_int, isD_bool, isD_str, isD_tup, kInt_non, kInt_bl, kInt_int, kInt_str, kInt_tup, kInt_lst, kBool_non, kBool_bl, kBool_int, kBool_str, kBool_tup, kBool_lst, kStr_non, kStr_bl, kStr_int, kStr_str, kStr_tup, kStr_lst, kTup_non, kTup_bl, kTup_int, kTup_str, kTup_tup, kTup_lst, atI_0, atI_1, atI_2, atI_3, cop, bop, b1D, b2D, ixD, seq_eq, seqX_tup, seqX_lst, seqX_scr, derL_eq, lstX_lst, der_loc, derLoc_lst, derLoc_dct, der_non, der_bl, der_int, der_str, der_tup, der_lst, der_scr, methD, mkL, D.isNon, D.isBl, oint, E.isSkip, slD, revD, dgetD, isLstS, truD, ints?, bls?, der_lotD, der_partD, der_thrD, der_mD, der_prD, seq_lotD, seq_partD, seq_thrD, lim0, f, deq_int, g1, g2, la']
    · simp [l28_1, sl, evSs, evS, evE, evEs, evI, evG, evGs, setAll, wipeD, isD_int, isD_bool, isD_str, isD_tup, kInt_non, kInt_bl, kInt_int, kInt_str, kInt_tup, kInt_lst, kBool_non, kBool_bl, kBool_int, kBool_str, kBool_tup, kBool_lst, kStr_non, kStr_bl, kStr_int, kStr_str, kStr_tup, kStr_lst, kTup_non, kTup_bl, kTup_int, kTup_str, kTup_tup, kTup_lst, atI_0, atI_1, atI_2, atI_3, cop, bop, b1D, b2D, ixD, seq_eq, seqX_tup, seqX_lst, seqX_scr, derL_eq, lstX_lst, der_loc, derLoc_lst, derLoc_dct, der_non, der_bl, der_int, der_str, der_tup, der_lst, der_scr, methD, mkL, D.isNon, D.isBl, oint, E.isSkip, slD, revD, dgetD, isLstS, truD, ints?, bls?, der_lotD, der_partD, der_thrD, der_mD, der_prD, seq_lotD, seq_partD, seq_thrD, lim0, f, hy1, deq_int, g1, g2, la', la2']
theorem e_both (k : Nat) {one other : Thr} (h1 : lenT one) (hy : ∀ x ∈ other, x.2 = 1 ∨ x.2 = -1) (hl : other.length * one.length ≤ 1000) (st : Sto) : evCall prg (k + 1) 28 [thrD one, thrD other] st = some (thrD (bothT one other), st) := by
  obtain ⟨δ', G', f0, f1⟩ := f28_out k one h1 st st.length rfl (keeps (thrD other) (other.map partD)) (fun _ => rfl) (some (thrD other)) other [] [] none none none none none none hy (by simpa using hl)
  have f : evS (cf k) f28_1 [some (thrD one), some (thrD other), some (.loc st.length), none, none, none, none, none, none, none] (st ++ [.lst []]) = some (.nx, δ', st ++ .lst ((bothT one other).map partD) :: G') := evS_for (w := ⟨other.map partD, keeps (thrD other) (other.map partD)⟩) rfl f0
  have lim0 : 0 ≤ LIM := by unfold LIM; omega
  refine call_ret (d := d28) (ex := .lst ((bothT one other).map partD) :: G') rfl rfl (δ := δ') ?_ (bel_thr _)
  have g := mid_get st (.lst ((bothT one other).map partD)) G'
  unfold thrD
  generalize (bothT one other).map partD = zs at *
  simp only [thrD] at f
  simp [d28, b28, sl, evSs, evS, evE, evEs, evI, evG, evGs, setAll, wipeD, isD_int, isD_bool, isD_str, isD_tup, kInt_non, kInt_bl, kInt_int, kInt_str, kInt_tup, kInt_lst, kBool_non, kBool_bl, kBool_int, kBool_str, kBool_tup, kBool_lst, kStr_non, kStr_bl, kStr_int, kStr_str, kStr_tup, kStr_lst, kTup_non, kTup_bl, kTup_int, kTup_str, kTup_tup, kTup_lst, atI_0, atI_1, atI_2, atI_3, cop, bop, b1D, b2D, ixD, seq_eq, seqX_tup, seqX_lst, seqX_scr, derL_eq, lstX_lst, der_loc, derLoc_lst, derLoc_dct, der_non, der_bl, der_int, der_str, der_tup, der_lst, der_scr, methD, mkL, D.isNon, D.isBl, oint, E.isSkip, slD, revD, dgetD, isLstS, truD, ints?, bls?, der_lotD, der_partD, der_thrD, der_mD, der_prD, seq_lotD, seq_partD, seq_thrD, lim0, f, f1, g]
/-! ### 14, 29, 30, 31, 32 -/
theorem len_of {n : Nat} (hn : n ≤ 8) {t : Thr} (h : VThr n t) : t.length ≤ n ∧ ∀ x ∈ t, x.1.length ≤ n := by
  have hfl := flat_len h
  have h3 : ∀ (t : Thr), (∀ x ∈ t, x.1 ≠ []) → t.length ≤ (flat t).length ∧ ∀ x ∈ t, x.1.length ≤ (flat t).length := by
    intro t
    induction t with
    | nil => intro _; simp
    | cons x t ih =>
      intro h
      obtain ⟨h1, h1b⟩ := ih fun y hy => h y (List.mem_cons_of_mem _ hy)
      have h2 : 0 < x.1.length := List.length_pos_iff.mpr (h x List.mem_cons_self)
      rw [flat_cons, List.length_append, List.length_cons]
      refine ⟨by omega, fun y hy => ?_⟩
      rcases List.mem_cons.mp hy with rfl | hy
      · omega
      · have := h1b y hy; omega
  have := h3 t fun x hx => (h.lot x hx).2.1
  rw [hfl] at this
  exact this
theorem lenT_of {n : Nat} (hn : n ≤ 8) {t : Thr} (h : VThr n t) : lenT t := by
  obtain ⟨a, b⟩ := len_of hn h
  exact ⟨by omega, fun x hx => by have := b x hx; omega⟩
theorem e_both' {n : Nat} (hn : n ≤ 8) (k : Nat) {one other : Thr} (h1 : VThr n one) (h2 : VThr n other) (st : Sto) : evCall prg (k + 1) 28 [thrD one, thrD other] st = some (thrD (bothT one other), st) := by
  obtain ⟨a, _⟩ := len_of hn h1
  obtain ⟨b, _⟩ := len_of hn h2
  refine e_both k (lenT_of hn h1) (fun x hx => (h2.lot x hx).1) ?_ st
  have : other.length * one.length ≤ 8 * 8 := Nat.mul_le_mul (by omega) (by omega)
  omega
theorem e_still1 (k : Nat) {n : Nat} (hn : n ≤ 8) (st : Sto) : evCall prg (k + 1) 14 [.int n, .int 1] st = some (thrD (stillT n), st) := e_one_lot k n 1 (by unfold LIM; omega) st
theorem f29_loop {n : Nat} (hn : n ≤ 8) (k : Nat) (st : Sto) (ok : Sto → Bool) (hok : ∀ s, ok s = true) (e0 e1 : Option D) : ∀ (ts : List Thr) (t : Thr) (a : Option D), VThr n t → (∀ u ∈ ts, VThr n u) → ∃ a', evFor (evG (.name 3)) (evSs (cf (k + 1)) l29_0) ok (ts.map thrD) [e0, e1, some (thrD t), a] st = some (.nx, [e0, e1, some (thrD (ts.foldl bothT t)), a'], st)
  | [], t, a, _, _ => ⟨a, by simp [evFor, hok]⟩
  | u :: ts, t, a, h, hs => by
    have hu := hs u List.mem_cons_self
    obtain ⟨a', ih⟩ := f29_loop hn k st ok hok e0 e1 ts (bothT t u) (some (thrD u)) (VThr_both h hu) fun v hv => hs v (List.mem_cons_of_mem _ hv)
    refine ⟨a', ?_⟩
    rw [List.foldl_cons, ← ih, List.map_cons]
    refine evFor_cons (hok _) (δ1 := [e0, e1, some (thrD t), some (thrD u)]) (by simp [evG]) ?_
    have e := e_both' hn k h hu st
    simp [l29_0, sl, evSs, evS, evE, evEs, evI, evG, evGs, setAll, wipeD, isD_int, isD_bool, isD_str, isD_tup, kInt_non, kInt_bl, kInt_int, kInt_str, kInt_tup, kInt_lst, kBool_non, kBool_bl, kBool_int, kBool_str, kBool_tup, kBool_lst, kStr_non, kStr_bl, kStr_int, kStr_str, kStr_tup, kStr_lst, kTup_non, kTup_bl, kTup_int, kTup_str, kTup_tup, kTup_lst, atI_0, atI_1, atI_2, atI_3, cop, bop, b1D, b2D, ixD, seq_eq, seqX_tup, seqX_lst, seqX_scr, derL_eq, lstX_lst, der_loc, derLoc_lst, derLoc_dct, der_non, der_bl, der_int, der_str, der_tup, der_lst, der_scr, methD, mkL, D.isNon, D.isBl, oint, E.isSkip, slD, revD, dgetD, isLstS, truD, ints?, bls?, der_lotD, der_partD, der_thrD, der_mD, der_prD, seq_lotD, seq_partD, seq_thrD, e]
theorem e_raw_row {n : Nat} (hn : n ≤ 8) (h1 : 1 ≤ n) (k : Nat) {ts : List Thr} (hs : ∀ u ∈ ts, VThr n u) (st : Sto) : evCall prg (k + 2) 29 [.int n, .tup (ts.map thrD)] st = some (thrD (rowT n ts), st) := by
  obtain ⟨a', f0⟩ := f29_loop hn k st (keeps (.tup (ts.map thrD)) (ts.map thrD)) (fun _ => rfl) (some (.int n)) (some (.tup (ts.map thrD))) ts (stillT n) none (VThr_still h1) hs
  have f : evS (cf (k + 1)) f29_0 [some (.int n), some (.tup (ts.map thrD)), some (thrD (stillT n)), none] st = _ := evS_for (w := ⟨ts.map thrD, keeps (.tup (ts.map thrD)) (ts.map thrD)⟩) rfl f0
  have e := e_still1 k hn st
  refine call_ret0 (d := d29) rfl rfl (δ := [some (.int n), some (.tup (ts.map thrD)), some (thrD (rowT n ts)), a']) ?_ (bel_thr _)
  unfold rowT at *
  generalize ts.map thrD = zs at *
  simp [d29, b29, sl, evSs, evS, evE, evEs, evI, evG, evGs, setAll, wipeD, isD_int, isD_bool, isD_str, isD_tup, kInt_non, kInt_bl, kInt_int, kInt_str, kInt_tup, kInt_lst, kBool_non, kBool_bl, kBool_int, kBool_str, kBool_tup, kBool_lst, kStr_non, kStr_bl, kStr_int, kStr_str, kStr_tup, kStr_lst, kTup_non, kTup_bl, kTup_int, kTup_str, kTup_tup, kTup_lst, atI_0, atI_1, atI_2, atI_3, cop, bop, b1D, b2D, ixD, seq_eq, seqX_tup, seqX_lst, seqX_scr, derL_eq, lstX_lst, der_loc, derLoc_lst, derLoc_dct, der_non, der_bl, der_int, der_str, der_tup, der_lst, der_scr, methD, mkL, D.isNon, D.isBl, oint, E.isSkip, slD, revD, dgetD, isLstS, truD, ints?, bls?, der_lotD, der_partD, der_thrD, der_mD, der_prD, seq_lotD, seq_partD, seq_thrD, e, f]
theorem e_like {n : Nat} (hn : n ≤ 8) (h1 : 1 ≤ n) (k : Nat) {t : Thr} (h : VThr n t) (st : Sto) : evCall prg (k + 6) 30 [.int n, thrD t] st = some (.bl true, st) := by
  refine call_ret0 (d := d30) rfl rfl (δ := [some (.int n), some (thrD t)]) ?_ rfl
  have e1 := e_throw_value hn h1 k t h st
  have e2 := e_raw_size (n := n) (k + 4) t (by have := (len_of hn h).1; unfold LIM; omega) st
  rw [flat_len h] at e2
  have d := deq_int n n
  simp only [decide_true] at d
  simp [d30, b30, sl, evSs, evS, evE, evEs, evI, evG, evGs, setAll, wipeD, isD_int, isD_bool, isD_str, isD_tup, kInt_non, kInt_bl, kInt_int, kInt_str, kInt_tup, kInt_lst, kBool_non, kBool_bl, kBool_int, kBool_str, kBool_tup, kBool_lst, kStr_non, kStr_bl, kStr_int, kStr_str, kStr_tup, kStr_lst, kTup_non, kTup_bl, kTup_int, kTup_str, kTup_tup, kTup_lst, atI_0, atI_1, atI_2, atI_3, cop, bop, b1D, b2D, ixD, seq_eq, seqX_tup, seqX_lst, seqX_scr, derL_eq, lstX_lst, der_loc, derLoc_lst, derLoc_dct, der_non, der_bl, der_int, der_str, der_tup, der_lst, der_scr, methD, mkL, D.isNon, D.isBl, oint, E.isSkip, slD, revD, dgetD, isLstS, truD, ints?, bls?, der_lotD, der_partD, der_thrD, der_mD, der_prD, seq_lotD, seq_partD, seq_thrD, e1, e2, d]
theorem e_row_of {n : Nat} (hn : n ≤ 8) (h1 : 1 ≤ n) (k : Nat) {ts : List Thr} (hl : ts.length ≤ 60) (hs : ∀ u ∈ ts, VThr n u) (st : Sto) : evCall prg (k + 7) 31 [.int n, .tup (ts.map thrD)] st = some (thrD (rowT n ts), st) := by
  have e1 := e_need_size (k + 2) n st (by omega) (by omega)
  have e2 := e_raw_row hn h1 (k + 4) hs st
  have g : prg.gl "MOST_THROWS" = some (.int 60) := rfl
  have q : evE (cf (k + 6)) q31_0 [some (.int n), some (.tup (ts.map thrD)), none] st = some (.lst (ts.map fun _ => .bl true), st) :=
    evE_comp (w := ⟨ts.map thrD, keeps (.tup (ts.map thrD)) (ts.map thrD)⟩) rfl (evC_mapL thrD _ rfl fun t ht => ⟨_, rfl, rfl, by simp [sl, evSs, evS, evE, evEs, evI, evG, evGs, setAll, wipeD, isD_int, isD_bool, isD_str, isD_tup, kInt_non, kInt_bl, kInt_int, kInt_str, kInt_tup, kInt_lst, kBool_non, kBool_bl, kBool_int, kBool_str, kBool_tup, kBool_lst, kStr_non, kStr_bl, kStr_int, kStr_str, kStr_tup, kStr_lst, kTup_non, kTup_bl, kTup_int, kTup_str, kTup_tup, kTup_lst, atI_0, atI_1, atI_2, atI_3, cop, bop, b1D, b2D, ixD, seq_eq, seqX_tup, seqX_lst, seqX_scr, derL_eq, lstX_lst, der_loc, derLoc_lst, derLoc_dct, der_non, der_bl, der_int, der_str, der_tup, der_lst, der_scr, methD, mkL, D.isNon, D.isBl, oint, E.isSkip, slD, revD, dgetD, isLstS, truD, ints?, bls?, der_lotD, der_partD, der_thrD, der_mD, der_prD, seq_lotD, seq_partD, seq_thrD, e_like hn h1 k (hs t ht)]⟩) (mkL_ok (by rw [List.length_map]; unfold LIM; omega))
  have bl : bls? (ts.map fun _ => D.bl true) = some (ts.map fun _ => true) := bls_map (fun _ => true) ts
  have ball : ((ts.map fun _ => true).all id) = true := by simp
  have hl2 : ¬ (60 : Int) < (((ts.map thrD).length : Nat) : Int) := by rw [List.length_map]; omega
  refine call_ret0 (d := d31) rfl rfl (δ := [some (.int n), some (.tup (ts.map thrD)), none]) ?_ (bel_thr _)
  generalize ts.map thrD = zs at *
  simp [d31, b31, sl, evSs, evS, evE, evEs, evI, evG, evGs, setAll, wipeD, isD_int, isD_bool, isD_str, isD_tup, kInt_non, kInt_bl, kInt_int, kInt_str, kInt_tup, kInt_lst, kBool_non, kBool_bl, kBool_int, kBool_str, kBool_tup, kBool_lst, kStr_non, kStr_bl, kStr_int, kStr_str, kStr_tup, kStr_lst, kTup_non, kTup_bl, kTup_int, kTup_str, kTup_tup, kTup_lst, atI_0, atI_1, atI_2, atI_3, cop, bop, b1D, b2D, ixD, seq_eq, seqX_tup, seqX_lst, seqX_scr, derL_eq, lstX_lst, der_loc, derLoc_lst, derLoc_dct, der_non, der_bl, der_int, der_str, der_tup, der_lst, der_scr, methD, mkL, D.isNon, D.isBl, oint, E.isSkip, slD, revD, dgetD, isLstS, truD, ints?, bls?, der_lotD, der_partD, der_thrD, der_mD, der_prD, seq_lotD, seq_partD, seq_thrD, e1, e2, g, q, bl, ball, hl2]
def powT (n : Nat) (t : Thr) (m : Nat) : Thr := if m = 0 then stillT n else if m = 1 then t else evenT t
theorem e_power {n : Nat} (hn : n ≤ 8) (h1 : 1 ≤ n) (k : Nat) {t : Thr} (h : VThr n t) (m : Nat) (hm : m < 3) (st : Sto) : evCall prg (k + 7) 32 [thrD t, .int m] st = some (thrD (powT n t m), st) := by
  have hl : t.length ≤ LIM := by have := (len_of hn h).1; unfold LIM; omega
  have e1 := e_need_throw hn h1 k t h st
  have e2 := e_need_number (k + 4) (m : Int) st (by omega)
  have e3 := e_raw_size (n := n) (k + 5) t hl st
  rw [flat_len h] at e3
  have e4 := e_still1 (k + 5) hn st
  have q : evE (cf (k + 6)) q32_0 [some (thrD t), some (.int m), none, none] st = some (.lst ((evenT t).map partD), st) := by
    unfold evenT
    rw [List.map_map]
    exact evE_comp (w := ⟨t.map partD, keeps (thrD t) (t.map partD)⟩) rfl (evC_mapL partD _ rfl fun x _ => ⟨_, rfl, rfl, by simp [sl, evSs, evS, evE, evEs, evI, evG, evGs, setAll, wipeD, isD_int, isD_bool, isD_str, isD_tup, kInt_non, kInt_bl, kInt_int, kInt_str, kInt_tup, kInt_lst, kBool_non, kBool_bl, kBool_int, kBool_str, kBool_tup, kBool_lst, kStr_non, kStr_bl, kStr_int, kStr_str, kStr_tup, kStr_lst, kTup_non, kTup_bl, kTup_int, kTup_str, kTup_tup, kTup_lst, atI_0, atI_1, atI_2, atI_3, cop, bop, b1D, b2D, ixD, seq_eq, seqX_tup, seqX_lst, seqX_scr, derL_eq, lstX_lst, der_loc, derLoc_lst, derLoc_dct, der_non, der_bl, der_int, der_str, der_tup, der_lst, der_scr, methD, mkL, D.isNon, D.isBl, oint, E.isSkip, slD, revD, dgetD, isLstS, truD, ints?, bls?, der_lotD, der_partD, der_thrD, der_mD, der_prD, seq_lotD, seq_partD, seq_thrD, partD]⟩) (mkL_ok (by simpa using hl))
  have d0 := deq_int (m : Int) 0
  have d1 := deq_int ((m : Int) % 2) 1
  have hm3 : m = 0 ∨ m = 1 ∨ m = 2 := by omega
  refine call_ret0 (d := d32) rfl rfl (δ := [some (thrD t), some (.int m), none, none]) ?_ (bel_thr _)
  rcases hm3 with rfl | rfl | rfl
  · have e2 : evCall prg (k + 6) 10 [.int 0] st = _ := e2
    simp [d32, b32, sl, evSs, evS, evE, evEs, evI, evG, evGs, setAll, wipeD, isD_int, isD_bool, isD_str, isD_tup, kInt_non, kInt_bl, kInt_int, kInt_str, kInt_tup, kInt_lst, kBool_non, kBool_bl, kBool_int, kBool_str, kBool_tup, kBool_lst, kStr_non, kStr_bl, kStr_int, kStr_str, kStr_tup, kStr_lst, kTup_non, kTup_bl, kTup_int, kTup_str, kTup_tup, kTup_lst, atI_0, atI_1, atI_2, atI_3, cop, bop, b1D, b2D, ixD, seq_eq, seqX_tup, seqX_lst, seqX_scr, derL_eq, lstX_lst, der_loc, derLoc_lst, derLoc_dct, der_non, der_bl, der_int, der_str, der_tup, der_lst, der_scr, methD, mkL, D.isNon, D.isBl, oint, E.isSkip, slD, revD, dgetD, isLstS, truD, ints?, bls?, der_lotD, der_partD, der_thrD, der_mD, der_prD, seq_lotD, seq_partD, seq_thrD, e1, e2, e3, e4, deq_int, powT]
  · have e2 : evCall prg (k + 6) 10 [.int 1] st = _ := e2
    simp [d32, b32, sl, evSs, evS, evE, evEs, evI, evG, evGs, setAll, wipeD, isD_int, isD_bool, isD_str, isD_tup, kInt_non, kInt_bl, kInt_int, kInt_str, kInt_tup, kInt_lst, kBool_non, kBool_bl, kBool_int, kBool_str, kBool_tup, kBool_lst, kStr_non, kStr_bl, kStr_int, kStr_str, kStr_tup, kStr_lst, kTup_non, kTup_bl, kTup_int, kTup_str, kTup_tup, kTup_lst, atI_0, atI_1, atI_2, atI_3, cop, bop, b1D, b2D, ixD, seq_eq, seqX_tup, seqX_lst, seqX_scr, derL_eq, lstX_lst, der_loc, derLoc_lst, derLoc_dct, der_non, der_bl, der_int, der_str, der_tup, der_lst, der_scr, methD, mkL, D.isNon, D.isBl, oint, E.isSkip, slD, revD, dgetD, isLstS, truD, ints?, bls?, der_lotD, der_partD, der_thrD, der_mD, der_prD, seq_lotD, seq_partD, seq_thrD, e1, e2, deq_int, powT]
  · have e2 : evCall prg (k + 6) 10 [.int 2] st = _ := e2
    have q : evE (cf (k + 6)) q32_0 [some (thrD t), some (.int 2), none, none] st = _ := q
    simp [d32, b32, sl, evSs, evS, evE, evEs, evI, evG, evGs, setAll, wipeD, isD_int, isD_bool, isD_str, isD_tup, kInt_non, kInt_bl, kInt_int, kInt_str, kInt_tup, kInt_lst, kBool_non, kBool_bl, kBool_int, kBool_str, kBool_tup, kBool_lst, kStr_non, kStr_bl, kStr_int, kStr_str, kStr_tup, kStr_lst, kTup_non, kTup_bl, kTup_int, kTup_str, kTup_tup, kTup_lst, atI_0, atI_1, atI_2, atI_3, cop, bop, b1D, b2D, ixD, seq_eq, seqX_tup, seqX_lst, seqX_scr, derL_eq, lstX_lst, der_loc, derLoc_lst, derLoc_dct, der_non, der_bl, der_int, der_str, der_tup, der_lst, der_scr, methD, mkL, D.isNon, D.isBl, oint, E.isSkip, slD, revD, dgetD, isLstS, truD, ints?, bls?, der_lotD, der_partD, der_thrD, der_mD, der_prD, seq_lotD, seq_partD, seq_thrD, e1, e2, deq_int, powT, q]
    rfl
theorem VThr_pow {n : Nat} (h1 : 1 ≤ n) {t : Thr} (h : VThr n t) (m : Nat) : VThr n (powT n t m) := by
  unfold powT
  split
  · exact VThr_still h1
  · split
    · exact h
    · exact VThr_even h
end K82
set_option Elab.async false
set_option linter.all false
set_option maxRecDepth 100000
set_option maxHeartbeats 4000000
namespace K82
open PySem Ev
/-! ### links the other way round -/
theorem way_swap (a b : Int) : ∀ t : Thr, way' t b a = (way' t a b).swap
  | [] => rfl
  | x :: t => by
    unfold way'
    rw [way_swap a b t]
    by_cases h1 : a ∈ x.1 <;> by_cases h2 : b ∈ x.1
    · by_cases h3 : x.2 = 1
      · simp [h1, h2, h3]; rfl
      · simp [h1, h2, h3]; rfl
    · simp [h1, h2]; rfl
    · simp [h1, h2]; rfl
    · simp [h1, h2]
theorem swap_oft (x : Mx) : x.oft.swap = x.swap.oft := by
  unfold Mx.oft
  rw [swap_thn, swap_or]
  rfl
theorem swap_foldl_thn : ∀ (l : List Mx) (m : Mx), (l.foldl Mx.thn m).swap = (l.map Mx.swap).foldl Mx.thn m.swap
  | [], m => rfl
  | x :: l, m => by rw [List.foldl_cons, swap_foldl_thn l, swap_thn]; rfl
theorem swap_foldl_or : ∀ (l : List Mx) (m : Mx), (l.foldl Mx.or m).swap = (l.map Mx.swap).foldl Mx.or m.swap
  | [], m => rfl
  | x :: l, m => by rw [List.foldl_cons, swap_foldl_or l, swap_or]; rfl
mutual
theorem link_swap {n : Nat} {a b : Int} (ha : Rn n a) (hb : Rn n b) : ∀ p : Pr, VPr n p → link p b a = (link p a b).swap
  | .throw t, h => by
    have h : VThr n t := h
    rw [link, link, way_eq (in_flat h hb.1 hb.2) (in_flat h ha.1 ha.2), way_eq (in_flat h ha.1 ha.2) (in_flat h hb.1 hb.2), way_swap]
  | .row ps, h => by
    have h : VPrs n ps := h
    rw [link, link, swap_foldl_thn, links_swap ha hb ps h]
    rfl
  | .choice ps, h => by
    have h : VPrs n ps := h.2
    rw [link, link, links_swap ha hb ps h]
    cases links ps a b with
    | nil => rfl
    | cons x xs =>
      show (xs.map Mx.swap).foldl Mx.or x.swap = (xs.foldl Mx.or x).swap
      rw [swap_foldl_or]
  | .often p, h => by
    have h : VPr n p := h
    rw [link, link, link_swap ha hb p h, swap_oft]
  | .parted k p q, h => by
    have h1 := link_swap ha hb p h.2.1
    have h2 := link_swap ha hb q h.2.2
    rw [link, link, h1, h2]
    by_cases m1 : a ∈ k <;> by_cases m2 : b ∈ k <;> simp [m1, m2] <;> rfl
theorem links_swap {n : Nat} {a b : Int} (ha : Rn n a) (hb : Rn n b) : ∀ ps : List Pr, VPrs n ps → links ps b a = (links ps a b).map Mx.swap
  | [], _ => rfl
  | p :: ps, h => by
    rw [links, links, List.map_cons, link_swap ha hb p h.1, links_swap ha hb ps h.2]
end
/-! ### alike -/
def LEq (n : Nat) (p q : Pr) : Prop := ∀ a b : Int, Rn n a → Rn n b → link p a b = link q a b
theorem unlike_of {n : Nat} {p q : Pr} (h : LEq n p q) : unlikeL n p q = [] := by
  unfold unlikeL
  rw [List.filter_eq_nil_iff]
  intro x hx
  obtain ⟨h1, h2⟩ := prsL_mem.mp hx
  simp [diffB, h x.1 x.2 h1 h2]
theorem leq_of {n : Nat} {p q : Pr} (hp : VPr n p) (hq : VPr n q) (h : unlikeL n p q = []) : LEq n p q := by
  intro a b ha hb
  have key : ∀ a b : Int, Rn n a → Rn n b → (link p a b).a = (link q a b).a ∧ (link p a b).b = (link q a b).b := fun a b ha hb => by
    unfold unlikeL at h
    rw [List.filter_eq_nil_iff] at h
    have := h (a, b) (prsL_mem.mpr ⟨ha, hb⟩)
    simpa [diffB] using this
  have k1 := key a b ha hb
  have k2 := key b a hb ha
  rw [link_swap ha hb p hp, link_swap ha hb q hq] at k2
  generalize link p a b = x at *
  generalize link q a b = y at *
  obtain ⟨a1, b1, c1, d1⟩ := x
  obtain ⟨a2, b2, c2, d2⟩ := y
  simp [Mx.swap] at k1 k2
  simp [k1, k2]
theorem judge_leq {n : Nat} {p q : Pr} (h : LEq n p q) : judgeF n p q = none := judge_none.mpr (unlike_of h)
theorem judgeD_leq {n : Nat} {p q : Pr} (h : LEq n p q) : judgeD n p q = alD := by
  unfold judgeD
  rw [judge_leq h]
/-! ### put otherwise -/
def putL (ks rs ws : List Int) (p q r : Pr) : List (Pr × Pr) :=
  [(.row [p, q, r], .row [p, .row [q, r]]),
   (.choice [p, q, r], .choice [r, .choice [p, q, p]]),
   (.often (.choice [p, q]), .often (.row [.often p, .often q])),
   (.parted ks p q, .parted rs q p),
   (.parted [] p q, q),
   (.parted ws p q, .row [p, .row []]),
   (.row [.choice [p, q], r], .choice [.row [p, r], .row [q, r]]),
   (.row [r, .choice [p, q]], .choice [.row [r, q], .row [r, p]])]
structure Sm (n d z : Nat) (p : Pr) : Prop where
  v : VPr n p
  d : dp p ≤ d
  z : sz p ≤ z
def restK (n : Nat) (ks : List Int) : List Int := (rgI n).filter fun k => decide (k ∉ ks)
theorem put_ok {n : Nat} {ks : List Int} (hk : ks.Sublist (rgI n)) {p q r : Pr} (hp : Sm n 3 8 p) (hq : Sm n 2 4 q) (hr : Sm n 2 4 r) : ∀ x ∈ putL ks (restK n ks) (rgI n) p q r, GP n x.1 ∧ GP n x.2 ∧ LEq n x.1 x.2 := by
  obtain ⟨pv, pd, pz⟩ := hp
  obtain ⟨qv, qd, qz⟩ := hq
  obtain ⟨rv, rd, rz⟩ := hr
  have sk := sub_kinds hk
  have sr := sub_kinds (n := n) (ks := restK n ks) (List.filter_sublist)
  have sw := sub_kinds (n := n) (ks := rgI n) (List.Sublist.refl _)
  intro x hx
  unfold putL at hx
  simp only [List.mem_cons, List.not_mem_nil, or_false] at hx
  rcases hx with rfl | rfl | rfl | rfl | rfl | rfl | rfl | rfl
  · refine ⟨⟨⟨pv, qv, rv, trivial⟩, by simp only [dp, dps]; omega, by simp only [sz, szs]; omega⟩, ⟨⟨pv, ⟨qv, rv, trivial⟩, trivial⟩, by simp only [dp, dps]; omega, by simp only [sz, szs]; omega⟩, fun a b _ _ => ?_⟩
    simp only [link, links, List.foldl_cons, List.foldl_nil, same_thn, thn_assoc]
  · refine ⟨⟨⟨by simp, pv, qv, rv, trivial⟩, by simp only [dp, dps]; omega, by simp only [sz, szs]; omega⟩, ⟨⟨by simp, rv, ⟨by simp, pv, qv, pv, trivial⟩, trivial⟩, by simp only [dp, dps]; omega, by simp only [sz, szs]; omega⟩, fun a b _ _ => ?_⟩
    simp only [link, links, List.foldl_cons, List.foldl_nil]
    rw [or_comm (link r a b), or_assoc (link p a b) (link q a b) (link p a b), or_comm (link q a b) (link p a b), ← or_assoc (link p a b), or_self]
  · refine ⟨⟨⟨by simp, pv, qv, trivial⟩, by simp only [dp, dps]; omega, by simp only [sz, szs]; omega⟩, ⟨⟨pv, qv, trivial⟩, by simp only [dp, dps]; omega, by simp only [sz, szs]; omega⟩, fun a b _ _ => ?_⟩
    simp only [link, links, List.foldl_cons, List.foldl_nil]
    exact oft_choice _ _
  · refine ⟨⟨⟨sk, pv, qv⟩, by simp only [dp, dps]; omega, by simp only [sz, szs]; omega⟩, ⟨⟨sr, qv, pv⟩, by simp only [dp, dps]; omega, by simp only [sz, szs]; omega⟩, fun a b ha hb => ?_⟩
    have m1 : a ∈ restK n ks ↔ a ∉ ks := by simp [restK, rgI_mem.mpr ha]
    have m2 : b ∈ restK n ks ↔ b ∉ ks := by simp [restK, rgI_mem.mpr hb]
    simp only [link]
    by_cases h1 : a ∈ ks <;> by_cases h2 : b ∈ ks <;> simp [h1, h2, m1, m2]
  · refine ⟨⟨⟨⟨by simp, by simp⟩, pv, qv⟩, by simp only [dp, dps]; omega, by simp only [sz, szs]; omega⟩, ⟨qv, Nat.le_trans qd (by omega), Nat.le_trans qz (by omega)⟩, fun a b ha hb => ?_⟩
    simp [link]
  · refine ⟨⟨⟨sw, pv, qv⟩, by simp only [dp, dps]; omega, by simp only [sz, szs]; omega⟩, ⟨⟨pv, trivial, trivial⟩, by simp only [dp, dps]; omega, by simp only [sz, szs]; omega⟩, fun a b ha hb => ?_⟩
    have m1 := rgI_mem.mpr ha
    have m2 := rgI_mem.mpr hb
    simp only [link, links, List.foldl_cons, List.foldl_nil, same_thn, thn_same]
    simp [m1, m2]
  · refine ⟨⟨⟨⟨by simp, pv, qv, trivial⟩, rv, trivial⟩, by simp only [dp, dps]; omega, by simp only [sz, szs]; omega⟩, ⟨⟨by simp, ⟨pv, rv, trivial⟩, ⟨qv, rv, trivial⟩, trivial⟩, by simp only [dp, dps]; omega, by simp only [sz, szs]; omega⟩, fun a b ha hb => ?_⟩
    simp only [link, links, List.foldl_cons, List.foldl_nil, same_thn]
    exact or_thn _ _ _
  · refine ⟨⟨⟨rv, ⟨by simp, pv, qv, trivial⟩, trivial⟩, by simp only [dp, dps]; omega, by simp only [sz, szs]; omega⟩, ⟨⟨by simp, ⟨rv, qv, trivial⟩, ⟨rv, pv, trivial⟩, trivial⟩, by simp only [dp, dps]; omega, by simp only [sz, szs]; omega⟩, fun a b ha hb => ?_⟩
    simp only [link, links, List.foldl_cons, List.foldl_nil, same_thn]
    rw [or_comm, thn_or]
def pairD (x : Pr × Pr) : D := .tup [prD x.1, prD x.2]
theorem bel_pair (x : Pr × Pr) : D.bel 0 (pairD x) = true := by
  show (D.bel 0 (prD x.1) && (D.bel 0 (prD x.2) && true)) = true
  rw [bel_pr, bel_pr]
  rfl
/-! ### 47 -/
theorem e_put {n : Nat} (hn : n ≤ 8) {K : Nat} (hK : 1 ≤ K) (p q r : Pr) {st rest : Sto} (hs : Deck st rest) : ∃ (ks : List Int) (st' : Sto), evCall prg (K + 1) 47 [.loc 1, .int n, prD p, prD q, prD r] st = some (.lst ((putL ks (restK n ks) (rgI n) p q r).map pairD), st') ∧ ks.Sublist (rgI n) ∧ Deck st' rest := by
  obtain ⟨ks, st', e, hsub, hs'⟩ := evC_sub (rest := rest) (g := evG (.name 8)) (c := evE (cf K) (.cmp .eq (.call 34 (.cons (.var 0) (.cons (.int 2) .nil))) (.int 0))) (e := evE (cf K) (.var 8)) (ok := fun _ => true) (δ := [some (.loc 1), some (.int n), some (prD p), some (prD q), some (prD r), none, none, none, none]) D.int D.int (fun _ _ => rfl) (xs := rgI n) hs fun x _ => ⟨[some (.loc 1), some (.int n), some (prD p), some (prD q), some (prD r), none, none, none, some (.int x)], by simp [evG], fun s h => by
    obtain ⟨r, s', ed, _, _, hs'⟩ := e_drawK hK h 2 (by omega) (by omega)
    exact ⟨decide (r = 0), s', by simp [sl, evSs, evS, evE, evEs, evI, evG, evGs, setAll, wipeD, isD_int, isD_bool, isD_str, isD_tup, kInt_non, kInt_bl, kInt_int, kInt_str, kInt_tup, kInt_lst, kBool_non, kBool_bl, kBool_int, kBool_str, kBool_tup, kBool_lst, kStr_non, kStr_bl, kStr_int, kStr_str, kStr_tup, kStr_lst, kTup_non, kTup_bl, kTup_int, kTup_str, kTup_tup, kTup_lst, atI_0, atI_1, atI_2, atI_3, cop, bop, b1D, b2D, ixD, seq_eq, seqX_tup, seqX_lst, seqX_scr, derL_eq, lstX_lst, der_loc, derLoc_lst, derLoc_dct, der_non, der_bl, der_int, der_str, der_tup, der_lst, der_scr, methD, mkL, D.isNon, D.isBl, oint, E.isSkip, slD, revD, dgetD, isLstS, truD, ints?, bls?, der_lotD, der_partD, der_thrD, der_mD, der_prD, seq_lotD, seq_partD, seq_thrD, ed, deq_int], hs'⟩, fun s => by simp [sl, evSs, evS, evE, evEs, evI, evG, evGs, setAll, wipeD, isD_int, isD_bool, isD_str, isD_tup, kInt_non, kInt_bl, kInt_int, kInt_str, kInt_tup, kInt_lst, kBool_non, kBool_bl, kBool_int, kBool_str, kBool_tup, kBool_lst, kStr_non, kStr_bl, kStr_int, kStr_str, kStr_tup, kStr_lst, kTup_non, kTup_bl, kTup_int, kTup_str, kTup_tup, kTup_lst, atI_0, atI_1, atI_2, atI_3, cop, bop, b1D, b2D, ixD, seq_eq, seqX_tup, seqX_lst, seqX_scr, derL_eq, lstX_lst, der_loc, derLoc_lst, derLoc_dct, der_non, der_bl, der_int, der_str, der_tup, der_lst, der_scr, methD, mkL, D.isNon, D.isBl, oint, E.isSkip, slD, revD, dgetD, isLstS, truD, ints?, bls?, der_lotD, der_partD, der_thrD, der_mD, der_prD, seq_lotD, seq_partD, seq_thrD]⟩
  have hl : (rgI n).length = n := by simp [rgI]
  have q1 : evE (cf K) q47_1 [some (.loc 1), some (.int n), some (prD p), some (prD q), some (prD r), none, none, none, none] st = some (.lst (ks.map D.int), st') := by
    refine evE_comp (i_rng K n 1 hn _ _ rfl) e (mkL_ok ?_)
    have := hsub.length_le
    rw [List.length_map]
    unfold LIM; omega
  have q0 : evE (cf K) q47_0 [some (.loc 1), some (.int n), some (prD p), some (prD q), some (prD r), some (.tup (ks.map D.int)), none, none, none] st' = some (.lst ((restK n ks).map D.int), st') := by
    refine evE_comp (i_rng K n 1 hn _ _ rfl) (evC_filterL D.int D.int (fun k => decide (k ∉ ks)) rfl fun i hi => ⟨_, rfl, by simp [sl, evSs, evS, evE, evEs, evI, evG, evGs, setAll, wipeD, isD_int, isD_bool, isD_str, isD_tup, kInt_non, kInt_bl, kInt_int, kInt_str, kInt_tup, kInt_lst, kBool_non, kBool_bl, kBool_int, kBool_str, kBool_tup, kBool_lst, kStr_non, kStr_bl, kStr_int, kStr_str, kStr_tup, kStr_lst, kTup_non, kTup_bl, kTup_int, kTup_str, kTup_tup, kTup_lst, atI_0, atI_1, atI_2, atI_3, cop, bop, b1D, b2D, ixD, seq_eq, seqX_tup, seqX_lst, seqX_scr, derL_eq, lstX_lst, der_loc, derLoc_lst, derLoc_dct, der_non, der_bl, der_int, der_str, der_tup, der_lst, der_scr, methD, mkL, D.isNon, D.isBl, oint, E.isSkip, slD, revD, dgetD, isLstS, truD, ints?, bls?, der_lotD, der_partD, der_thrD, der_mD, der_prD, seq_lotD, seq_partD, seq_thrD, inD_ints], fun _ => by simp [sl, evSs, evS, evE, evEs, evI, evG, evGs, setAll, wipeD, isD_int, isD_bool, isD_str, isD_tup, kInt_non, kInt_bl, kInt_int, kInt_str, kInt_tup, kInt_lst, kBool_non, kBool_bl, kBool_int, kBool_str, kBool_tup, kBool_lst, kStr_non, kStr_bl, kStr_int, kStr_str, kStr_tup, kStr_lst, kTup_non, kTup_bl, kTup_int, kTup_str, kTup_tup, kTup_lst, atI_0, atI_1, atI_2, atI_3, cop, bop, b1D, b2D, ixD, seq_eq, seqX_tup, seqX_lst, seqX_scr, derL_eq, lstX_lst, der_loc, derLoc_lst, derLoc_dct, der_non, der_bl, der_int, der_str, der_tup, der_lst, der_scr, methD, mkL, D.isNon, D.isBl, oint, E.isSkip, slD, revD, dgetD, isLstS, truD, ints?, bls?, der_lotD, der_partD, der_thrD, der_mD, der_prD, seq_lotD, seq_partD, seq_thrD]⟩) (mkL_ok ?_)
    rw [List.length_map]
    have := List.length_filter_le (fun k => decide (k ∉ ks)) (rgI n)
    unfold LIM; omega
  have hrg : rngD n = (rgI n).map D.int := by simp [rngD, rgI]
  have h2 : (n : Int) ≤ (LIM : Int) := by unfold LIM; omega
  refine ⟨ks, st', call_dk (ex := []) (d := d47) (δ := [some (.loc 1), some (.int n), some (prD p), some (prD q), some (prD r), some (lotD ks), some (lotD (restK n ks)), some (lotD (rgI n)), none]) hs hs' rfl rfl ?_ (bels_all fun d hd => by
    obtain ⟨x, _, rfl⟩ := List.mem_map.mp hd
    exact bel_pair x), hsub, hs'⟩
  have lim8 : 8 ≤ LIM := by unfold LIM; omega
  have d1 : evSs (cf K) b47 [some (.loc 1), some (.int n), some (prD p), some (prD q), some (prD r), none, none, none, none] st = evSs (cf K) (match b47 with | .cons _ (.cons _ tl) => tl | _ => .nil) [some (.loc 1), some (.int n), some (prD p), some (prD q), some (prD r), some (lotD ks), some (lotD (restK n ks)), some (lotD (rgI n)), none] st' := by
    unfold b47
    simp only [evSs, evS, evE, evEs, q1, Option.bind_some, Option.map_some, b1D, seq_eq, der_lst, seqX_lst]
    simp [sl, evSs, evS, evE, evEs, evI, evG, evGs, setAll, wipeD, isD_int, isD_bool, isD_str, isD_tup, kInt_non, kInt_bl, kInt_int, kInt_str, kInt_tup, kInt_lst, kBool_non, kBool_bl, kBool_int, kBool_str, kBool_tup, kBool_lst, kStr_non, kStr_bl, kStr_int, kStr_str, kStr_tup, kStr_lst, kTup_non, kTup_bl, kTup_int, kTup_str, kTup_tup, kTup_lst, atI_0, atI_1, atI_2, atI_3, cop, bop, b1D, b2D, ixD, seq_eq, seqX_tup, seqX_lst, seqX_scr, derL_eq, lstX_lst, der_loc, derLoc_lst, derLoc_dct, der_non, der_bl, der_int, der_str, der_tup, der_lst, der_scr, methD, mkL, D.isNon, D.isBl, oint, E.isSkip, slD, revD, dgetD, isLstS, truD, ints?, bls?, der_lotD, der_partD, der_thrD, der_mD, der_prD, seq_lotD, seq_partD, seq_thrD, q0, hrg, h2, lotD]
  refine d1.trans ?_
  unfold b47
  simp only [putL, List.map_cons, List.map_nil, pairD, prD, prDs]
  generalize prD p = P at *
  generalize prD q = Q at *
  generalize prD r = R at *
  generalize lotD (restK n ks) = W at *
  generalize lotD (rgI n) = U at *
  have hz : lotD [] = .tup [] := rfl
  simp [evSs, evS, evE, evEs, mkL, lim8, hz]
end K82
set_option Elab.async false
set_option linter.all false
set_option maxRecDepth 100000
set_option maxHeartbeats 4000000
namespace K82
open PySem Ev
/-! ### 48 -/
theorem szs_throws (ts : List Thr) : szs (ts.map Pr.throw) = ts.length := by
  induction ts with
  | nil => rfl
  | cons t ts ih => rw [List.map_cons, szs, ih, sz, List.length_cons]; omega
theorem dps_throws (ts : List Thr) : dps (ts.map Pr.throw) ≤ 1 := by
  induction ts with
  | nil => simp [dps]
  | cons t ts ih => rw [List.map_cons, dps, dp]; omega
theorem VPrs_throws {n : Nat} {ts : List Thr} (h : ∀ t ∈ ts, VThr n t) : VPrs n (ts.map Pr.throw) := VPrs_mem.mpr fun p hp => by
  obtain ⟨t, ht, rfl⟩ := List.mem_map.mp hp
  exact h t ht
theorem prD_throws (ts : List Thr) : prD (.row (ts.map Pr.throw)) = .tup [.str "row", .tup (ts.map fun t => .tup [.str "throw", thrD t])] := by
  rw [prD, prDs_map, List.map_map]
  rfl
theorem leq_row {n : Nat} (h1 : 1 ≤ n) {ts : List Thr} (h : ∀ t ∈ ts, VThr n t) : LEq n (.row (ts.map Pr.throw)) (.throw (rowT n ts)) := fun a b ha hb => by
  rw [link, link, links_map, List.map_map]
  unfold rowT
  rw [wayM_row ha hb (VThr_still h1) h, wayM_still ha hb]
  rfl
theorem leq_pow {n : Nat} {t : Thr} (h : VThr n t) : LEq n (.often (.throw t)) (.choice [.throw (powT n t 0), .throw (powT n t 1), .throw (powT n t 2)]) := fun a b ha hb => by
  simp only [link, links, List.foldl_cons, List.foldl_nil]
  have e0 : powT n t 0 = stillT n := rfl
  have e1 : powT n t 1 = t := rfl
  have e2 : powT n t 2 = evenT t := rfl
  rw [e0, e1, e2, wayM_still ha hb, wayM_even h ha hb]
  exact oft_pow _
theorem e_are_throws {n : Nat} (hn : n ≤ 8) (h1 : 1 ≤ n) (k : Nat) {st rest : Sto} (hs : Deck st rest) : ∃ st' : Sto, evCall prg (k + 13) 48 [.loc 1, .int n] st = some (.bl true, st') ∧ Deck st' rest := by
  obtain ⟨m, s1, ed, m0, m1, hs1⟩ := e_drawK (K := k + 12) (by omega) hs 4 (by omega) (by omega)
  obtain ⟨ts, s2, e2, hR, hs2⟩ := evC_rel (rest := rest) (g := evG (.name 6)) (c := evE (cf (k + 12)) (.bl true)) (e := evE (cf (k + 12)) (.call 38 (.cons (.var 0) (.cons (.var 1) .nil)))) (ok := fun _ => true) (δ := [some (.loc 1), some (.int n), none, none, none, none, none, none]) D.int thrD (fun _ t => VThr n t) (fun _ _ => rfl) (xs := rgI m.toNat) hs1 fun x hx => ⟨[some (.loc 1), some (.int n), none, none, none, none, some (.int x), none], by simp [evG], fun s => rfl, fun s h => by
    obtain ⟨t, s', e, ht, hs'⟩ := e_throwK hn (K := k + 12) (by omega) h
    exact ⟨t, s', by simp [sl, evSs, evS, evE, evEs, evI, evG, evGs, setAll, wipeD, isD_int, isD_bool, isD_str, isD_tup, kInt_non, kInt_bl, kInt_int, kInt_str, kInt_tup, kInt_lst, kBool_non, kBool_bl, kBool_int, kBool_str, kBool_tup, kBool_lst, kStr_non, kStr_bl, kStr_int, kStr_str, kStr_tup, kStr_lst, kTup_non, kTup_bl, kTup_int, kTup_str, kTup_tup, kTup_lst, atI_0, atI_1, atI_2, atI_3, cop, bop, b1D, b2D, ixD, seq_eq, seqX_tup, seqX_lst, seqX_scr, derL_eq, lstX_lst, der_loc, derLoc_lst, derLoc_dct, der_non, der_bl, der_int, der_str, der_tup, der_lst, der_scr, methD, mkL, D.isNon, D.isBl, oint, E.isSkip, slD, revD, dgetD, isLstS, truD, ints?, bls?, der_lotD, der_partD, der_thrD, der_mD, der_prD, seq_lotD, seq_partD, seq_thrD, e], ht, hs'⟩⟩
  have hlen := forall2_len hR
  have hl2 : (rgI m.toNat).length = m.toNat := by simp [rgI]
  have hts : ∀ t ∈ ts, VThr n t := forall2_right (Q := fun t => VThr n t) (fun _ _ h => h) hR
  have q2 : evE (cf (k + 12)) q48_2 [some (.loc 1), some (.int n), none, none, none, none, none, none] st = some (.lst (ts.map thrD), s2) := by
    refine evE_comp (st1 := s1) (w := ⟨(rgI m.toNat).map D.int, fun _ => true⟩) ?_ e2 (mkL_ok ?_)
    · have h : m ≤ (LIM : Int) ∧ -(LIM : Int) ≤ m := by unfold LIM; omega
      simp [sl, evSs, evS, evE, evEs, evI, evG, evGs, setAll, wipeD, isD_int, isD_bool, isD_str, isD_tup, kInt_non, kInt_bl, kInt_int, kInt_str, kInt_tup, kInt_lst, kBool_non, kBool_bl, kBool_int, kBool_str, kBool_tup, kBool_lst, kStr_non, kStr_bl, kStr_int, kStr_str, kStr_tup, kStr_lst, kTup_non, kTup_bl, kTup_int, kTup_str, kTup_tup, kTup_lst, atI_0, atI_1, atI_2, atI_3, cop, bop, b1D, b2D, ixD, seq_eq, seqX_tup, seqX_lst, seqX_scr, derL_eq, lstX_lst, der_loc, derLoc_lst, derLoc_dct, der_non, der_bl, der_int, der_str, der_tup, der_lst, der_scr, methD, mkL, D.isNon, D.isBl, oint, E.isSkip, slD, revD, dgetD, isLstS, truD, ints?, bls?, der_lotD, der_partD, der_thrD, der_mD, der_prD, seq_lotD, seq_partD, seq_thrD, ed, h, rngD, rgI]
    · rw [List.length_map]
      unfold LIM; omega
  have q1 : evE (cf (k + 12)) q48_1 [some (.loc 1), some (.int n), some (.tup (ts.map thrD)), none, none, none, none, none] s2 = some (.lst (ts.map fun t => .tup [.str "throw", thrD t]), s2) :=
    evE_comp (w := ⟨ts.map thrD, keeps (.tup (ts.map thrD)) (ts.map thrD)⟩) rfl (evC_mapL thrD _ rfl fun t _ => ⟨_, rfl, rfl, by simp [sl, evSs, evS, evE, evEs, evI, evG, evGs, setAll, wipeD, isD_int, isD_bool, isD_str, isD_tup, kInt_non, kInt_bl, kInt_int, kInt_str, kInt_tup, kInt_lst, kBool_non, kBool_bl, kBool_int, kBool_str, kBool_tup, kBool_lst, kStr_non, kStr_bl, kStr_int, kStr_str, kStr_tup, kStr_lst, kTup_non, kTup_bl, kTup_int, kTup_str, kTup_tup, kTup_lst, atI_0, atI_1, atI_2, atI_3, cop, bop, b1D, b2D, ixD, seq_eq, seqX_tup, seqX_lst, seqX_scr, derL_eq, lstX_lst, der_loc, derLoc_lst, derLoc_dct, der_non, der_bl, der_int, der_str, der_tup, der_lst, der_scr, methD, mkL, D.isNon, D.isBl, oint, E.isSkip, slD, revD, dgetD, isLstS, truD, ints?, bls?, der_lotD, der_partD, der_thrD, der_mD, der_prD, seq_lotD, seq_partD, seq_thrD]⟩) (mkL_ok (by rw [List.length_map]; unfold LIM; omega))
  have er := e_row_of hn h1 (k + 5) (ts := ts) (by omega) hts s2
  have gp : GP n (.row (ts.map Pr.throw)) := ⟨VPrs_throws hts, by have := dps_throws ts; simp only [dp]; omega, by simp only [sz, szs_throws]; omega⟩
  have gr : VThr n (rowT n ts) := VThr_row (VThr_still h1) hts
  have gq : GP n (.throw (rowT n ts)) := ⟨gr, by simp [dp], by simp [sz]⟩
  have ej := e_judge hn h1 k gp gq s2
  rw [judgeD_leq (leq_row h1 hts), prD_throws] at ej
  obtain ⟨t, s3, et, ht, hs3⟩ := e_throwK hn (K := k + 12) (by omega) hs2
  have q0 : evE (cf (k + 12)) q48_0 [some (.loc 1), some (.int n), some (.tup (ts.map thrD)), some (prD (.row (ts.map Pr.throw))), some (thrD t), none, none, none] s3 = some (.lst ([0, 1, 2].map fun (m : Nat) => .tup [.str "throw", thrD (powT n t m)]), s3) := by
    refine evE_comp (st1 := s3) (w := ⟨[0, 1, 2].map fun (m : Nat) => D.int (m : Int), fun _ => true⟩) ?_ (evC_mapL (fun (m : Nat) => D.int (m : Int)) _ rfl fun m hm => ⟨_, rfl, rfl, ?_⟩) (mkL_ok (by unfold LIM; simp))
    · have h : (3 : Int) ≤ (LIM : Int) ∧ -(LIM : Int) ≤ 3 := by unfold LIM; omega
      have hr : rngD 3 = [0, 1, 2].map fun (m : Nat) => D.int (m : Int) := rfl
      simp only [evI, evE, Option.bind_some, h, and_self, if_true]
      rfl
    · have hm3 : m < 3 := by
        simp at hm
        omega
      have ep := e_power hn h1 (k + 5) ht m hm3 s3
      simp [sl, evSs, evS, evE, evEs, evI, evG, evGs, setAll, wipeD, isD_int, isD_bool, isD_str, isD_tup, kInt_non, kInt_bl, kInt_int, kInt_str, kInt_tup, kInt_lst, kBool_non, kBool_bl, kBool_int, kBool_str, kBool_tup, kBool_lst, kStr_non, kStr_bl, kStr_int, kStr_str, kStr_tup, kStr_lst, kTup_non, kTup_bl, kTup_int, kTup_str, kTup_tup, kTup_lst, atI_0, atI_1, atI_2, atI_3, cop, bop, b1D, b2D, ixD, seq_eq, seqX_tup, seqX_lst, seqX_scr, derL_eq, lstX_lst, der_loc, derLoc_lst, derLoc_dct, der_non, der_bl, der_int, der_str, der_tup, der_lst, der_scr, methD, mkL, D.isNon, D.isBl, oint, E.isSkip, slD, revD, dgetD, isLstS, truD, ints?, bls?, der_lotD, der_partD, der_thrD, der_mD, der_prD, seq_lotD, seq_partD, seq_thrD, ep]
  have gp2 : GP n (.often (.throw t)) := ⟨ht, by simp [dp], by simp [sz]⟩
  have gq2 : GP n (.choice [.throw (powT n t 0), .throw (powT n t 1), .throw (powT n t 2)]) := ⟨⟨by simp, VThr_pow h1 ht 0, VThr_pow h1 ht 1, VThr_pow h1 ht 2, trivial⟩, by simp [dp, dps], by simp [sz, szs]⟩
  have ej2 := e_judge hn h1 k gp2 gq2 s3
  rw [judgeD_leq (leq_pow ht)] at ej2
  refine ⟨s3, call_dk (ex := []) (d := d48) (δ := [some (.loc 1), some (.int n), some (.tup (ts.map thrD)), some (prD (.row (ts.map Pr.throw))), some (thrD t), some (prD (.choice [.throw (powT n t 0), .throw (powT n t 1), .throw (powT n t 2)])), none, none]) hs hs3 rfl rfl ?_ rfl, hs3⟩
  have da := deq_al_al
  rw [prD_throws] at q0 ⊢
  simp only [prD, prDs, List.map_cons, List.map_nil] at ej ej2 q0 ⊢
  unfold alD at da ej ej2
  generalize thrD (powT n t 0) = P0 at *
  generalize thrD (powT n t 1) = P1 at *
  generalize thrD (powT n t 2) = P2 at *
  generalize thrD (rowT n ts) = R0 at *
  generalize (ts.map fun t => D.tup [.str "throw", thrD t]) = rows at *
  generalize ts.map thrD = tss at *
  simp [d48, b48, sl, evSs, evS, evE, evEs, evI, evG, evGs, setAll, wipeD, isD_int, isD_bool, isD_str, isD_tup, kInt_non, kInt_bl, kInt_int, kInt_str, kInt_tup, kInt_lst, kBool_non, kBool_bl, kBool_int, kBool_str, kBool_tup, kBool_lst, kStr_non, kStr_bl, kStr_int, kStr_str, kStr_tup, kStr_lst, kTup_non, kTup_bl, kTup_int, kTup_str, kTup_tup, kTup_lst, atI_0, atI_1, atI_2, atI_3, cop, bop, b1D, b2D, ixD, seq_eq, seqX_tup, seqX_lst, seqX_scr, derL_eq, lstX_lst, der_loc, derLoc_lst, derLoc_dct, der_non, der_bl, der_int, der_str, der_tup, der_lst, der_scr, methD, mkL, D.isNon, D.isBl, oint, E.isSkip, slD, revD, dgetD, isLstS, truD, ints?, bls?, der_lotD, der_partD, der_thrD, der_mD, der_prD, seq_lotD, seq_partD, seq_thrD, q2, q1, er, ej, da, et, q0, ej2]
/-! ### 49 -/
theorem deck_push {st rest : Sto} (h : Deck st rest) {x : SO} (hx : SO.bel 0 x = true) : Deck (st ++ [x]) (rest ++ [x]) := by
  obtain ⟨⟨c, m, t, rfl, hc⟩, hr⟩ := h
  refine ⟨⟨c, m, t, rfl, hc⟩, ?_⟩
  rw [List.all_eq_true] at hr ⊢
  intro o ho
  rw [List.length_append]
  rcases List.mem_append.mp ho with ho | ho
  · exact so_mono (by simp) (hr o ho)
  · rw [List.mem_singleton.mp ho]
    exact so_mono (by omega) hx
theorem deck_pop {st rest : Sto} {x : SO} (h : Deck st (rest ++ [x])) (hr : rest.all (SO.bel (rest.length + 2)) = true) : ∃ s0, Deck s0 rest ∧ st = s0 ++ [x] := by
  obtain ⟨⟨c, m, t, rfl, hc⟩, _⟩ := h
  exact ⟨dk c m t rest, ⟨⟨c, m, t, rfl, hc⟩, hr⟩, rfl⟩
theorem deck_len {st rest : Sto} (h : Deck st rest) : st.length = rest.length + 2 := by
  obtain ⟨⟨c, m, t, rfl, hc⟩, _⟩ := h
  exact dk_len _ _ _ _
def sixP (ks : List Int) : Pr := .throw (ks.map fun k => ([k], 1))
def six : List (List Int) := [[0, 1, 2], [0, 2, 1], [1, 0, 2], [2, 0, 1], [1, 2, 0], [2, 1, 0]]
theorem q49_0_eq (k : Nat) (ks : List Int) (hl : ks.length ≤ 10) (st : Sto) (e0 e1 e3 e4 e5 e6 e7 : Option D) : evE (cf k) q49_0 [e0, e1, some (lotD ks), e3, e4, e5, e6, e7, none] st = some (.lst ((ks.map fun k => ([k], (1 : Int))).map partD), st) := by
  rw [List.map_map]
  exact evE_comp (w := ⟨ks.map D.int, keeps (lotD ks) (ks.map D.int)⟩) rfl (evC_mapL D.int _ rfl fun t _ => ⟨_, rfl, rfl, by simp [sl, evSs, evS, evE, evEs, evI, evG, evGs, setAll, wipeD, isD_int, isD_bool, isD_str, isD_tup, kInt_non, kInt_bl, kInt_int, kInt_str, kInt_tup, kInt_lst, kBool_non, kBool_bl, kBool_int, kBool_str, kBool_tup, kBool_lst, kStr_non, kStr_bl, kStr_int, kStr_str, kStr_tup, kStr_lst, kTup_non, kTup_bl, kTup_int, kTup_str, kTup_tup, kTup_lst, atI_0, atI_1, atI_2, atI_3, cop, bop, b1D, b2D, ixD, seq_eq, seqX_tup, seqX_lst, seqX_scr, derL_eq, lstX_lst, der_loc, derLoc_lst, derLoc_dct, der_non, der_bl, der_int, der_str, der_tup, der_lst, der_scr, methD, mkL, D.isNon, D.isBl, oint, E.isSkip, slD, revD, dgetD, isLstS, truD, ints?, bls?, der_lotD, der_partD, der_thrD, der_mD, der_prD, seq_lotD, seq_partD, seq_thrD, partD, lotD]⟩) (mkL_ok (by rw [List.length_map]; unfold LIM; omega))
theorem f49_loop (k : Nat) (st : Sto) (p : Nat) (hp : st.length = p) (ok : Sto → Bool) (hok : ∀ s, ok s = true) (e0 e3 e4 e5 e6 e7 : Option D) : ∀ (kss : List (List Int)) (acc : List Pr) (a : Option D), (∀ ks ∈ kss, ks.length ≤ 10) → acc.length + kss.length ≤ 100 →
    ∃ a', evFor (evG (.name 2)) (evSs (cf k) l49_0) ok (kss.map lotD) [e0, some (.loc p), a, e3, e4, e5, e6, e7, none] (st ++ [.lst (acc.map prD)]) = some (.nx, [e0, some (.loc p), a', e3, e4, e5, e6, e7, none], st ++ [.lst ((acc ++ kss.map sixP).map prD)])
  | [], acc, a, _, _ => ⟨a, by simp [evFor, hok]⟩
  | ks :: kss, acc, a, h, hl => by
    rw [List.length_cons] at hl
    obtain ⟨a', ih⟩ := f49_loop k st p hp ok hok e0 e3 e4 e5 e6 e7 kss (acc ++ [sixP ks]) (some (lotD ks)) (fun x hx => h x (List.mem_cons_of_mem _ hx)) (by simp; omega)
    refine ⟨a', ?_⟩
    have e : acc ++ List.map sixP (ks :: kss) = acc ++ [sixP ks] ++ kss.map sixP := by simp
    rw [e, ← ih, List.map_cons]
    refine evFor_cons (hok _) (δ1 := [e0, some (.loc p), some (lotD ks), e3, e4, e5, e6, e7, none]) (by simp [evG]) ?_
    have q := q49_0_eq k ks (h ks List.mem_cons_self) (st ++ [.lst (acc.map prD)]) e0 (some (.loc p)) e3 e4 e5 e6 e7
    subst hp
    have la : acc.length < LIM := by unfold LIM; omega
    have hsx : prD (sixP ks) = .tup [.str "throw", .tup ((ks.map fun k => ([k], (1 : Int))).map partD)] := rfl
    rw [List.map_append, List.map_cons, List.map_nil, hsx]
    generalize (ks.map fun k => ([k], (1 : Int))).map partD = zs at *
    have la2 : (acc.map prD).length < LIM := by rw [List.length_map]; exact la
    generalize acc.map prD = ac at *
    simp [l49_0, sl, evSs, evS, evE, evEs, evI, evG, evGs, setAll, wipeD, isD_int, isD_bool, isD_str, isD_tup, kInt_non, kInt_bl, kInt_int, kInt_str, kInt_tup, kInt_lst, kBool_non, kBool_bl, kBool_int, kBool_str, kBool_tup, kBool_lst, kStr_non, kStr_bl, kStr_int, kStr_str, kStr_tup, kStr_lst, kTup_non, kTup_bl, kTup_int, kTup_str, kTup_tup, kTup_lst, atI_0, atI_1, atI_2, atI_3, cop, bop, b1D, b2D, ixD, seq_eq, seqX_tup, seqX_lst, seqX_scr, derL_eq, lstX_lst, der_loc, derLoc_lst, derLoc_dct, der_non, der_bl, der_int, der_str, der_tup, der_lst, der_scr, methD, mkL, D.isNon, D.isBl, oint, E.isSkip, slD, revD, dgetD, isLstS, truD, ints?, bls?, der_lotD, der_partD, der_thrD, der_mD, der_prD, seq_lotD, seq_partD, seq_thrD, q, get_last, set_last, la2]
theorem VThr_six {ks : List Int} (h : ks ∈ six) : VThr 3 (ks.map fun k => ([k], 1)) := by
  have hp : ks.Perm (rgI 3) := by
    unfold six at h
    simp only [List.mem_cons, List.not_mem_nil, or_false] at h
    rcases h with rfl | rfl | rfl | rfl | rfl | rfl <;> decide +kernel
  refine ⟨fun x hx => ?_, ?_⟩
  · obtain ⟨k, hk, rfl⟩ := List.mem_map.mp hx
    exact ⟨.inl rfl, by simp, by simp, fun j hj => by
      rw [List.mem_singleton.mp hj]
      exact rgI_mem.mp (hp.subset hk)⟩
  · have : ((ks.map fun k => (([k], 1) : List Int × Int)).map (·.1)).flatten = ks := by
      clear hp h
      induction ks with
      | nil => rfl
      | cons k ks ih => rw [List.map_cons, List.map_cons, List.flatten_cons, ih]; rfl
    rw [this]
    exact hp
theorem six_all : ∀ a ∈ ([0, 1, 2] : List Int), ∀ b ∈ ([0, 1, 2] : List Int), a ≠ b → (link (.choice (six.map sixP)) a b).a = true ∧ (link (.choice (six.map sixP)) a b).b = true := by decide +kernel
theorem six_two : ∀ i ∈ ([0, 1, 2, 3, 4, 5] : List Nat), ∀ a ∈ ([0, 1, 2] : List Int), ∀ b ∈ ([0, 1, 2] : List Int), a ≠ b → (link (.choice [sixP (six.getD i []), sixP (six.getD (5 - i) [])]) a b).a = true ∧ (link (.choice [sixP (six.getD i []), sixP (six.getD (5 - i) [])]) a b).b = true := by decide +kernel
theorem six_mem {i : Nat} (h : i < 6) : six.getD i [] ∈ six := by
  have : i < six.length := h
  rw [List.getD_eq_getElem?_getD, List.getElem?_eq_getElem this]
  exact List.getElem_mem this
theorem same_ab (k : Nat) (st : Sto) : evCall prg (k + 2) 37 [endsD true true, endsD true true] st = some (.bl true, st) :=
  same_tup k [(.str "ahead", .str "ahead", true), (.str "behind", .str "behind", true)] st (by decide) fun t ht => by
    simp only [List.mem_cons, List.not_mem_nil, or_false] at ht
    rcases ht with rfl | rfl
    · have := same_str k "ahead" "ahead" ok_ahead ok_ahead st
      simpa using this
    · have := same_str k "behind" "behind" ok_behind ok_behind st
      simpa using this
theorem e_are_six (k : Nat) {st rest : Sto} (hs : Deck st rest) : ∃ st' : Sto, evCall prg (k + 13) 49 [.loc 1] st = some (.bl true, st') ∧ Deck st' rest := by
  have hl := deck_len hs
  obtain ⟨a', f0⟩ := f49_loop (k + 12) st (rest.length + 2) hl (keeps (.lst (six.map lotD)) (six.map lotD)) (fun _ => rfl) (some (.loc 1)) none none none none none six [] none (by decide) (by decide)
  rw [List.nil_append, List.map_nil] at f0
  have hbx : SO.bel 0 (.lst ((six.map sixP).map prD)) = true := bels_all fun d hd => by
    obtain ⟨p, _, rfl⟩ := List.mem_map.mp hd
    exact bel_pr p
  have hs0 := deck_push hs hbx
  have lim0 : 0 ≤ LIM := by unfold LIM; omega
  have lim6 : 6 ≤ LIM := by unfold LIM; omega
  have f : evS (cf (k + 12)) f49_0 [some (.loc 1), some (.loc (rest.length + 2)), none, none, none, none, none, none, none] (st ++ [.lst []]) = some (.nx, [some (.loc 1), some (.loc (rest.length + 2)), a', none, none, none, none, none, none], st ++ [.lst ((six.map sixP).map prD)]) := by
    refine evS_for (st1 := st ++ [.lst []]) (w := ⟨six.map lotD, keeps (.lst (six.map lotD)) (six.map lotD)⟩) ?_ f0
    simp [sl, evSs, evS, evE, evEs, evI, evG, evGs, setAll, wipeD, isD_int, isD_bool, isD_str, isD_tup, kInt_non, kInt_bl, kInt_int, kInt_str, kInt_tup, kInt_lst, kBool_non, kBool_bl, kBool_int, kBool_str, kBool_tup, kBool_lst, kStr_non, kStr_bl, kStr_int, kStr_str, kStr_tup, kStr_lst, kTup_non, kTup_bl, kTup_int, kTup_str, kTup_tup, kTup_lst, atI_0, atI_1, atI_2, atI_3, cop, bop, b1D, b2D, ixD, seq_eq, seqX_tup, seqX_lst, seqX_scr, derL_eq, lstX_lst, der_loc, derLoc_lst, derLoc_dct, der_non, der_bl, der_int, der_str, der_tup, der_lst, der_scr, methD, mkL, D.isNon, D.isBl, oint, E.isSkip, slD, revD, dgetD, isLstS, truD, ints?, bls?, der_lotD, der_partD, der_thrD, der_mD, der_prD, seq_lotD, seq_partD, seq_thrD, lim6, six, lotD]
  obtain ⟨i, s1, e1, i0, i1, hs1⟩ := e_drawK (K := k + 12) (by omega) hs0 6 (by omega) (by omega)
  obtain ⟨a, s2, e2, a0, a1, hs2⟩ := e_drawK (K := k + 12) (by omega) hs1 3 (by omega) (by omega)
  obtain ⟨x, s3, e3, x0, x1, hs3⟩ := e_drawK (K := k + 12) (by omega) hs2 2 (by omega) (by omega)
  obtain ⟨s4, hs4, rfl⟩ := deck_pop hs3 hs.ok
  have hl4 := deck_len hs4
  generalize hb : (a + 1 + x) % 3 = b
  have b0 : 0 ≤ b := by omega
  have b1 : b < 3 := by omega
  have hab : a ≠ b := by omega
  have am : a ∈ ([0, 1, 2] : List Int) := by simp; omega
  have bm : b ∈ ([0, 1, 2] : List Int) := by simp; omega
  have im : i.toNat ∈ ([0, 1, 2, 3, 4, 5] : List Nat) := by simp; omega
  have g := get_last s4 (.lst ((six.map sixP).map prD))
  have sl6 : ((six.map sixP).map prD).length = 6 := rfl
  have gi : ∀ j : Nat, j < 6 → L2.atI ((six.map sixP).map prD) (j : Int) = some (prD (sixP (six.getD j []))) := fun j hj => by
    rw [atI_nat _ _ (by rw [sl6]; exact hj), List.getElem?_map, List.getElem?_map, List.getElem?_eq_getElem (by exact hj), List.getD_eq_getElem?_getD, List.getElem?_eq_getElem (by exact hj)]
    rfl
  have gi1 := gi i.toNat (by omega)
  have gi2 := gi (5 - i.toNat) (by omega)
  rw [show ((i.toNat : Nat) : Int) = i by omega] at gi1
  rw [show ((5 - i.toNat : Nat) : Int) = 5 - i by omega] at gi2
  have v6 : ∀ p ∈ six.map sixP, VPr 3 p := fun p hp => by
    obtain ⟨ks, hk, rfl⟩ := List.mem_map.mp hp
    exact VThr_six hk
  have g6 : GP 3 (.choice (six.map sixP)) := ⟨⟨by simp [six], VPrs_mem.mpr v6⟩, by decide +kernel, by decide +kernel⟩
  have g2 : GP 3 (.choice [sixP (six.getD i.toNat []), sixP (six.getD (5 - i.toNat) [])]) := ⟨⟨by simp, VThr_six (six_mem (by omega)), VThr_six (six_mem (by omega)), trivial⟩, by simp [dp, dps, sixP], by simp [sz, szs, sixP]⟩
  have ra : Rn 3 a := ⟨a0, by omega⟩
  have rb : Rn 3 b := ⟨b0, by omega⟩
  have n1 := e_ends (by decide) (by decide) ra rb k g6 (s4 ++ [.lst ((six.map sixP).map prD)])
  have n2 := e_ends (by decide) (by decide) ra rb k g2 (s4 ++ [.lst ((six.map sixP).map prD)])
  rw [(six_all a am b bm hab).1, (six_all a am b bm hab).2] at n1
  rw [(six_two _ im a am b bm hab).1, (six_two _ im a am b bm hab).2] at n2
  have sm := same_ab (k + 10) (s4 ++ [.lst ((six.map sixP).map prD)])
  refine ⟨s4, call_dk (ex := [.lst ((six.map sixP).map prD)]) (d := d49) (δ := [some (.loc 1), some (.loc (rest.length + 2)), a', some (.int b), some (prD (.choice [sixP (six.getD i.toNat []), sixP (six.getD (5 - i.toNat) [])])), some (endsD true true), some (.int i), some (.int a), none]) hs hs4 rfl rfl ?_ rfl, hs4⟩
  have hed : endsD true true = .tup [.str "ahead", .str "behind"] := rfl
  rw [hl4] at g
  have n1 : evCall prg (k + 12) 23 [.int 3, _, .int a, .int b] _ = _ := n1
  have n2 : evCall prg (k + 12) 23 [.int 3, _, .int a, .int b] _ = _ := n2
  rw [hed] at n1 n2 sm ⊢
  simp only [prD, prDs, prDs_map] at n1 n2 ⊢
  generalize prD (sixP (six.getD i.toNat [])) = P1 at *
  generalize prD (sixP (six.getD (5 - i.toNat) [])) = P2 at *
  generalize hT : (six.map sixP).map prD = T at *
  simp [d49, b49, sl, evSs, evS, evE, evEs, evI, evG, evGs, setAll, wipeD, isD_int, isD_bool, isD_str, isD_tup, kInt_non, kInt_bl, kInt_int, kInt_str, kInt_tup, kInt_lst, kBool_non, kBool_bl, kBool_int, kBool_str, kBool_tup, kBool_lst, kStr_non, kStr_bl, kStr_int, kStr_str, kStr_tup, kStr_lst, kTup_non, kTup_bl, kTup_int, kTup_str, kTup_tup, kTup_lst, atI_0, atI_1, atI_2, atI_3, cop, bop, b1D, b2D, ixD, seq_eq, seqX_tup, seqX_lst, seqX_scr, derL_eq, lstX_lst, der_loc, derLoc_lst, derLoc_dct, der_non, der_bl, der_int, der_str, der_tup, der_lst, der_scr, methD, mkL, D.isNon, D.isBl, oint, E.isSkip, slD, revD, dgetD, isLstS, truD, ints?, bls?, der_lotD, der_partD, der_thrD, der_mD, der_prD, seq_lotD, seq_partD, seq_thrD, lim0, hl, f, e1, e2, e3, hb, g, gi1, gi2, n1, n2, sm]
end K82
set_option Elab.async false
set_option linter.all false
set_option maxRecDepth 100000
set_option maxHeartbeats 4000000
namespace K82
open PySem Ev
/-! ### 50 -/
theorem f50_loop {n : Nat} (hn : n ≤ 8) (h1 : 1 ≤ n) (k : Nat) (ok : Sto → Bool) (hok : ∀ s, ok s = true) (st : Sto) (e0 e1 e3 e4 e5 e6 : Option D) : ∀ (xs : List (Pr × Pr)) (a b : Option D), (∀ x ∈ xs, GP n x.1 ∧ GP n x.2 ∧ LEq n x.1 x.2) →
    ∃ a' b', evFor (evG (.tup [.name 7, .name 8])) (evSs (cf (k + 12)) l50_0) ok (xs.map pairD) [e0, e1, some (.int n), e3, e4, e5, e6, a, b] st = some (.nx, [e0, e1, some (.int n), e3, e4, e5, e6, a', b'], st)
  | [], a, b, _ => ⟨a, b, by simp [evFor, hok]⟩
  | x :: xs, a, b, h => by
    obtain ⟨a', b', ih⟩ := f50_loop hn h1 k ok hok st e0 e1 e3 e4 e5 e6 xs (some (prD x.1)) (some (prD x.2)) fun y hy => h y (List.mem_cons_of_mem _ hy)
    obtain ⟨g1, g2, hl⟩ := h x List.mem_cons_self
    refine ⟨a', b', ?_⟩
    rw [← ih, List.map_cons]
    refine evFor_cons (hok _) (δ1 := [e0, e1, some (.int n), e3, e4, e5, e6, some (prD x.1), some (prD x.2)]) (by simp [evG, evGs, pairD]) ?_
    have ej := e_judge hn h1 k g1 g2 st
    rw [judgeD_leq hl] at ej
    have eu := e_unlike hn (k + 3) g1 g2 st
    rw [unlike_of hl] at eu
    have eu : evCall prg (k + 12) 44 [prD x.1, prD x.2, .int n] st = some (.lst [], st) := eu
    have da := deq_al_al
    have dn : deq (.lst []) (.lst []) = some true := deq_duos []
    have lim0 : 0 ≤ LIM := by unfold LIM; omega
    unfold alD at da ej
    simp [l50_0, sl, evSs, evS, evE, evEs, evI, evG, evGs, setAll, wipeD, isD_int, isD_bool, isD_str, isD_tup, kInt_non, kInt_bl, kInt_int, kInt_str, kInt_tup, kInt_lst, kBool_non, kBool_bl, kBool_int, kBool_str, kBool_tup, kBool_lst, kStr_non, kStr_bl, kStr_int, kStr_str, kStr_tup, kStr_lst, kTup_non, kTup_bl, kTup_int, kTup_str, kTup_tup, kTup_lst, atI_0, atI_1, atI_2, atI_3, cop, bop, b1D, b2D, ixD, seq_eq, seqX_tup, seqX_lst, seqX_scr, derL_eq, lstX_lst, der_loc, derLoc_lst, derLoc_dct, der_non, der_bl, der_int, der_str, der_tup, der_lst, der_scr, methD, mkL, D.isNon, D.isBl, oint, E.isSkip, slD, revD, dgetD, isLstS, truD, ints?, bls?, der_lotD, der_partD, der_thrD, der_mD, der_prD, seq_lotD, seq_partD, seq_thrD, ej, eu, da, dn, lim0]
theorem size_pick {d : D} (h : d ∈ ([.int 2, .int 3, .int 4, .int 5, .int 2, .int 3, .int 1, .int 4, .int 2, .int 3, .int 4, .int 5, .int 2, .int 3, .int 6, .int 7, .int 8] : List D)) : ∃ n : Nat, d = .int (n : Int) ∧ 1 ≤ n ∧ n ≤ 8 := by
  simp only [List.mem_cons, List.not_mem_nil, or_false] at h
  rcases h with rfl | rfl | rfl | rfl | rfl | rfl | rfl | rfl | rfl | rfl | rfl | rfl | rfl | rfl | rfl | rfl | rfl
  · exact ⟨2, rfl, by decide, by decide⟩
  · exact ⟨3, rfl, by decide, by decide⟩
  · exact ⟨4, rfl, by decide, by decide⟩
  · exact ⟨5, rfl, by decide, by decide⟩
  · exact ⟨2, rfl, by decide, by decide⟩
  · exact ⟨3, rfl, by decide, by decide⟩
  · exact ⟨1, rfl, by decide, by decide⟩
  · exact ⟨4, rfl, by decide, by decide⟩
  · exact ⟨2, rfl, by decide, by decide⟩
  · exact ⟨3, rfl, by decide, by decide⟩
  · exact ⟨4, rfl, by decide, by decide⟩
  · exact ⟨5, rfl, by decide, by decide⟩
  · exact ⟨2, rfl, by decide, by decide⟩
  · exact ⟨3, rfl, by decide, by decide⟩
  · exact ⟨6, rfl, by decide, by decide⟩
  · exact ⟨7, rfl, by decide, by decide⟩
  · exact ⟨8, rfl, by decide, by decide⟩
theorem leq_row2 {n : Nat} {p q : Pr} (r : Pr) (h : LEq n p q) : LEq n (.row [r, p]) (.row [r, q]) := fun a b ha hb => by
  simp only [link, links, h a b ha hb]
theorem leq_choice2 {n : Nat} {p q : Pr} (r : Pr) (h : LEq n p q) : LEq n (.choice [r, p]) (.choice [r, q]) := fun a b ha hb => by
  simp only [link, links, h a b ha hb]
theorem e_law (ns : List Int) (h63 : ns.length ≤ 63) : ∃ st, evCall prg 60 50 [.scr (ns.map .int)] [] = some (.bl true, st) := by
  obtain ⟨m, e0⟩ := e_deck 58 ns h63 82
  have hs0 := deck0 h63 m
  obtain ⟨d, s1, e1, hd, hs1⟩ := e_pick 57 hs0 [.int 2, .int 3, .int 4, .int 5, .int 2, .int 3, .int 1, .int 4, .int 2, .int 3, .int 4, .int 5, .int 2, .int 3, .int 6, .int 7, .int 8] (by simp) (by simp) (by simp [D.bel]) _ (.inl rfl)
  obtain ⟨n, rfl, h1, hn⟩ := size_pick hd
  obtain ⟨p, s2, e2, hp, hs2⟩ := e_program hn 53 2 8 3 8 hs1 rfl rfl (by decide) (by decide) (by decide)
  obtain ⟨q, s3, e3, hq, hs3⟩ := e_program hn 54 1 4 2 4 hs2 rfl rfl (by decide) (by decide) (by decide)
  obtain ⟨r, s4, e4, hr, hs4⟩ := e_program hn 54 1 4 2 4 hs3 rfl rfl (by decide) (by decide) (by decide)
  have gp : GP n p := ⟨hp.1, by have := hp.2.1; omega, by have := hp.2.2; omega⟩
  have gq : GP n q := ⟨hq.1, by have := hq.2.1; omega, by have := hq.2.2; omega⟩
  have gr : GP n r := ⟨hr.1, by have := hr.2.1; omega, by have := hr.2.2; omega⟩
  have gc : GP n (.choice [r, q]) := ⟨⟨by simp, gr.v, gq.v, trivial⟩, by have := hr.2.1; have := hq.2.1; simp only [dp, dps]; omega, by have := hr.2.2; have := hq.2.2; simp only [sz, szs]; omega⟩
  obtain ⟨s5, e5, hs5⟩ := e_judged hn h1 45 gp gq true hs4
  obtain ⟨s6, e6, hs6⟩ := e_judged hn h1 45 gq gc false hs5
  obtain ⟨ks, s7, e7, hks, hs7⟩ := e_put hn (K := 58) (by omega) p q r hs6
  have hput := put_ok hks (p := p) (q := q) (r := r) ⟨hp.1, hp.2.1, hp.2.2⟩ ⟨hq.1, hq.2.1, hq.2.2⟩ ⟨hr.1, hr.2.1, hr.2.2⟩
  obtain ⟨ys, s8, e8, hys, hs8⟩ := e_some 56 hs7 ((putL ks (restK n ks) (rgI n) p q r).map pairD) (by simp [putL]) fun d hd => by
    obtain ⟨x, _, rfl⟩ := List.mem_map.mp hd
    exact bel_pair x
  obtain ⟨xs, rfl, hxs⟩ := sub_map hys
  obtain ⟨a', b', f0⟩ := f50_loop hn h1 47 (keeps (.lst (xs.map pairD)) (xs.map pairD)) (fun _ => rfl) s8 (some (.scr (ns.map .int))) (some (.loc 1)) none (some (prD p)) (some (prD q)) (some (prD r)) xs none none fun x hx => hput x (hxs x hx)
  have f : evS (cf 59) f50_0 [some (.scr (ns.map .int)), some (.loc 1), some (.int n), none, some (prD p), some (prD q), some (prD r), none, none] s6 = some (.nx, [some (.scr (ns.map .int)), some (.loc 1), some (.int n), none, some (prD p), some (prD q), some (prD r), a', b'], s8) := by
    refine evS_for (st1 := s8) (w := ⟨xs.map pairD, keeps (.lst (xs.map pairD)) (xs.map pairD)⟩) ?_ f0
    generalize (putL ks (restK n ks) (rgI n) p q r).map pairD = us at *
    generalize xs.map pairD = zs at *
    simp [sl, evSs, evS, evE, evEs, evI, evG, evGs, setAll, wipeD, isD_int, isD_bool, isD_str, isD_tup, kInt_non, kInt_bl, kInt_int, kInt_str, kInt_tup, kInt_lst, kBool_non, kBool_bl, kBool_int, kBool_str, kBool_tup, kBool_lst, kStr_non, kStr_bl, kStr_int, kStr_str, kStr_tup, kStr_lst, kTup_non, kTup_bl, kTup_int, kTup_str, kTup_tup, kTup_lst, atI_0, atI_1, atI_2, atI_3, cop, bop, b1D, b2D, ixD, seq_eq, seqX_tup, seqX_lst, seqX_scr, derL_eq, lstX_lst, der_loc, derLoc_lst, derLoc_dct, der_non, der_bl, der_int, der_str, der_tup, der_lst, der_scr, methD, mkL, D.isNon, D.isBl, oint, E.isSkip, slD, revD, dgetD, isLstS, truD, ints?, bls?, der_lotD, der_partD, der_thrD, der_mD, der_prD, seq_lotD, seq_partD, seq_thrD, e7, e8]
  obtain ⟨s9, e9, hs9⟩ := e_are_throws hn h1 46 hs8
  obtain ⟨s10, e10, hs10⟩ := e_are_six 46 hs9
  have ej := e_judge hn h1 47 gp gq s8
  have hb : ∃ δ, evSs (cf 59) b50 [some (.scr (ns.map .int)), none, none, none, none, none, none, none, none] [] = some (.rt (.bl true), δ, s10) := by
    have e2 : evCall prg 59 40 [.loc 1, .int n, .int 3, .int 8] s1 = _ := e2
    have e3 : evCall prg 59 40 [.loc 1, .int n, .int 2, .int 4] s2 = _ := e3
    have e4 : evCall prg 59 40 [.loc 1, .int n, .int 2, .int 4] s3 = _ := e4
    have e5 : evCall prg 59 46 _ s4 = _ := e5
    have e6 : evCall prg 59 46 _ s5 = _ := e6
    have lim17 : 17 ≤ LIM := by unfold LIM; omega
    have da := deq_al_al
    cases hj : judgeF n p q with
    | none =>
      have hl : LEq n p q := leq_of gp.v gq.v (judge_none.mp hj)
      rw [judgeD_leq hl] at ej
      have g1 : GP n (.row [r, p]) := ⟨⟨gr.v, gp.v, trivial⟩, by have := hr.2.1; have := hp.2.1; simp only [dp, dps]; omega, by have := hr.2.2; have := hp.2.2; simp only [sz, szs]; omega⟩
      have g2 : GP n (.row [r, q]) := ⟨⟨gr.v, gq.v, trivial⟩, by have := hr.2.1; have := hq.2.1; simp only [dp, dps]; omega, by have := hr.2.2; have := hq.2.2; simp only [sz, szs]; omega⟩
      have g3 : GP n (.choice [r, p]) := ⟨⟨by simp, gr.v, gp.v, trivial⟩, by have := hr.2.1; have := hp.2.1; simp only [dp, dps]; omega, by have := hr.2.2; have := hp.2.2; simp only [sz, szs]; omega⟩
      have j1 := e_judge hn h1 47 g1 g2 s8
      have j2 := e_judge hn h1 47 g3 gc s8
      rw [judgeD_leq (leq_row2 r hl)] at j1
      rw [judgeD_leq (leq_choice2 r hl)] at j2
      have j1 : evCall prg 59 26 _ s8 = _ := j1
      have j2 : evCall prg 59 26 _ s8 = _ := j2
      have ej : evCall prg 59 26 _ s8 = _ := ej
      simp only [prD, prDs] at j1 j2 e6
      unfold alD at da ej j1 j2
      generalize prD p = P at *
      generalize prD q = Q at *
      generalize prD r = R at *
      refine ⟨[some (.scr (ns.map .int)), some (.loc 1), some (.int n), some (.bl true), some P, some Q, some R, a', b'], ?_⟩
      simp [b50, sl, evSs, evS, evE, evEs, evI, evG, evGs, setAll, wipeD, isD_int, isD_bool, isD_str, isD_tup, kInt_non, kInt_bl, kInt_int, kInt_str, kInt_tup, kInt_lst, kBool_non, kBool_bl, kBool_int, kBool_str, kBool_tup, kBool_lst, kStr_non, kStr_bl, kStr_int, kStr_str, kStr_tup, kStr_lst, kTup_non, kTup_bl, kTup_int, kTup_str, kTup_tup, kTup_lst, atI_0, atI_1, atI_2, atI_3, cop, bop, b1D, b2D, ixD, seq_eq, seqX_tup, seqX_lst, seqX_scr, derL_eq, lstX_lst, der_loc, derLoc_lst, derLoc_dct, der_non, der_bl, der_int, der_str, der_tup, der_lst, der_scr, methD, mkL, D.isNon, D.isBl, oint, E.isSkip, slD, revD, dgetD, isLstS, truD, ints?, bls?, der_lotD, der_partD, der_thrD, der_mD, der_prD, seq_lotD, seq_partD, seq_thrD, lim17, e0, e1, e2, e3, e4, e5, e6, f, ej, da, j1, j2, e9, e10]
    | some x =>
      have du := deq_un_al x
      have hD : judgeD n p q = unD x := by unfold judgeD; rw [hj]
      rw [hD] at ej
      have ej : evCall prg 59 26 _ s8 = _ := ej
      simp only [prD, prDs] at e6
      have dx : der s8 (unD x) = unD x := rfl
      unfold alD at du
      generalize unD x = U at *
      generalize prD p = P at *
      generalize prD q = Q at *
      generalize prD r = R at *
      refine ⟨[some (.scr (ns.map .int)), some (.loc 1), some (.int n), some (.bl false), some P, some Q, some R, a', b'], ?_⟩
      simp [b50, sl, evSs, evS, evE, evEs, evI, evG, evGs, setAll, wipeD, isD_int, isD_bool, isD_str, isD_tup, kInt_non, kInt_bl, kInt_int, kInt_str, kInt_tup, kInt_lst, kBool_non, kBool_bl, kBool_int, kBool_str, kBool_tup, kBool_lst, kStr_non, kStr_bl, kStr_int, kStr_str, kStr_tup, kStr_lst, kTup_non, kTup_bl, kTup_int, kTup_str, kTup_tup, kTup_lst, atI_0, atI_1, atI_2, atI_3, cop, bop, b1D, b2D, ixD, seq_eq, seqX_tup, seqX_lst, seqX_scr, derL_eq, lstX_lst, der_loc, derLoc_lst, derLoc_dct, der_non, der_bl, der_int, der_str, der_tup, der_lst, der_scr, methD, mkL, D.isNon, D.isBl, oint, E.isSkip, slD, revD, dgetD, isLstS, truD, ints?, bls?, der_lotD, der_partD, der_thrD, der_mD, der_prD, seq_lotD, seq_partD, seq_thrD, lim17, e0, e1, e2, e3, e4, e5, e6, f, ej, dx, du, e9, e10]
  obtain ⟨δ, hb⟩ := hb
  rw [call_unf 59 50 d50 _ [] rfl rfl]
  have hb : evSs (cf 59) d50.body ([D.scr (ns.map .int)].map some ++ List.replicate (d50.N.length - 1) none) [] = some (.rt (.bl true), δ, s10) := hb
  show ∃ st, (evSs (cf 59) d50.body ([D.scr (ns.map .int)].map some ++ List.replicate (d50.N.length - 1) none) []).bind _ = _
  rw [hb]
  exact ⟨_, rfl⟩
end K82
set_option Elab.async false
set_option linter.all false
set_option maxRecDepth 100000
set_option maxHeartbeats 4000000
theorem K82.hl : ∀ ns : List Int, ns.length ≤ 63 → ∃ st, Ev.evCall K82.prg 60 50 [.scr (ns.map Ev.D.int)] [] = some (.bl true, st) := fun ns h => K82.e_law ns h
set_option Elab.async false
set_option linter.all false
set_option maxRecDepth 100000
set_option maxHeartbeats 0
namespace K82
open PySem PySem.Spec PyProof.Rows L2 Ev
def top (i : Nat) : Stmt := PySem.Challenge.pw_lotthrows_k82_whole_programs_alike_by_tw.main.body.getD i (.Pass ⟨0, 0, 0, 0⟩)
def dd (i : Nat) (x : PySem.Str) : He.DefD := ⟨(x, none), x, x, defArgs (top i), defBody (top i), defScope (top i), [], []⟩
def fn : List He.DefD := [dd 10 "is_integer", dd 11 "is_between", dd 12 "are_between", dd 13 "is_word", dd 14 "is_size", dd 15 "is_lot_value", dd 16 "is_throw_value", dd 18 "need_size", dd 19 "need_throw", dd 20 "need_kind", dd 21 "need_number", dd 27 "raw_size", dd 28 "raw_lot_of", dd 29 "raw_way", dd 30 "one_lot", dd 37 "is_part_lot", dd 38 "inner_of", dd 39 "parts_raw", dd 40 "link_then", dd 41 "link_or", dd 42 "link_of", dd 43 "ends_raw", dd 45 "need_program", dd 46 "ends", dd 47 "are_two_kinds", dd 48 "need_two_programs", dd 49 "judge_alike", dd 50 "alike_holds", dd 53 "raw_both", dd 54 "raw_row", dd 55 "is_throw_like", dd 56 "row_of", dd 57 "power", dd 59 "_law_deck", dd 60 "_law_draw", dd 61 "_law_pick", dd 62 "_law_some", dd 63 "_law_same", dd 64 "_law_throw", dd 65 "_law_inner", dd 66 "_law_program", dd 67 "_law_falls", dd 68 "_law_ends", dd 69 "_law_pairs", dd 70 "_law_unlike", dd 71 "_law_is_told", dd 72 "_law_is_judged", dd 73 "_law_put", dd 74 "_law_are_throws", dd 75 "_law_are_six", dd 76 "law"]
def frees : List PySem.Str := [("len" : PySem.Str), ("range" : PySem.Str), ("int" : PySem.Str), ("tuple" : PySem.Str), ("list" : PySem.Str), ("isinstance" : PySem.Str), ("bool" : PySem.Str), ("str" : PySem.Str), ("sum" : PySem.Str), ("all" : PySem.Str), ("sorted" : PySem.Str), ("max" : PySem.Str), ("min" : PySem.Str), ("enumerate" : PySem.Str), ("zip" : PySem.Str)]
def gnm : List PySem.Str := [("is_integer" : PySem.Str), ("is_between" : PySem.Str), ("are_between" : PySem.Str), ("is_word" : PySem.Str), ("is_size" : PySem.Str), ("is_lot_value" : PySem.Str), ("is_throw_value" : PySem.Str), ("need_size" : PySem.Str), ("need_throw" : PySem.Str), ("need_kind" : PySem.Str), ("need_number" : PySem.Str), ("raw_size" : PySem.Str), ("raw_lot_of" : PySem.Str), ("raw_way" : PySem.Str), ("one_lot" : PySem.Str), ("is_part_lot" : PySem.Str), ("inner_of" : PySem.Str), ("parts_raw" : PySem.Str), ("link_then" : PySem.Str), ("link_or" : PySem.Str), ("link_of" : PySem.Str), ("ends_raw" : PySem.Str), ("need_program" : PySem.Str), ("ends" : PySem.Str), ("are_two_kinds" : PySem.Str), ("need_two_programs" : PySem.Str), ("judge_alike" : PySem.Str), ("alike_holds" : PySem.Str), ("raw_both" : PySem.Str), ("raw_row" : PySem.Str), ("is_throw_like" : PySem.Str), ("row_of" : PySem.Str), ("power" : PySem.Str), ("_law_deck" : PySem.Str), ("_law_draw" : PySem.Str), ("_law_pick" : PySem.Str), ("_law_some" : PySem.Str), ("_law_same" : PySem.Str), ("_law_throw" : PySem.Str), ("_law_inner" : PySem.Str), ("_law_program" : PySem.Str), ("_law_falls" : PySem.Str), ("_law_ends" : PySem.Str), ("_law_pairs" : PySem.Str), ("_law_unlike" : PySem.Str), ("_law_is_told" : PySem.Str), ("_law_is_judged" : PySem.Str), ("_law_put" : PySem.Str), ("_law_are_throws" : PySem.Str), ("_law_are_six" : PySem.Str), ("law" : PySem.Str), ("BY_WAY" : PySem.Str)]
def fa : List He.Fa := gnm.map He.Fa.glo ++ frees.map He.Fa.free
theorem fa_glo {x : PySem.Str} (h : x ∈ gnm) : He.Fa.glo x ∈ fa := List.mem_append_left _ (List.mem_map_of_mem h)
theorem fa_free {x : PySem.Str} (h : x ∈ frees) : He.Fa.free x ∈ fa := List.mem_append_right _ (List.mem_map_of_mem h)
def nm0 : List PySem.Str := [("ThrowError" : PySem.Str), ("BadSize" : PySem.Str), ("BadKind" : PySem.Str), ("BadThrow" : PySem.Str), ("BadThrows" : PySem.Str), ("BadNumber" : PySem.Str), ("BadProgram" : PySem.Str), ("MOST_SIZE" : PySem.Str), ("is_integer" : PySem.Str), ("is_between" : PySem.Str), ("are_between" : PySem.Str), ("is_word" : PySem.Str), ("is_size" : PySem.Str), ("is_lot_value" : PySem.Str), ("is_throw_value" : PySem.Str), ("need_size" : PySem.Str), ("need_throw" : PySem.Str), ("need_kind" : PySem.Str), ("need_number" : PySem.Str), ("AHEAD" : PySem.Str), ("BEHIND" : PySem.Str), ("KEPT" : PySem.Str), ("TURNED" : PySem.Str), ("raw_size" : PySem.Str), ("raw_lot_of" : PySem.Str), ("raw_way" : PySem.Str), ("one_lot" : PySem.Str), ("MOST_PARTS" : PySem.Str), ("MOST_DEEP" : PySem.Str), ("SAME" : PySem.Str), ("ANYHOW" : PySem.Str), ("BY_WAY" : PySem.Str), ("is_part_lot" : PySem.Str), ("inner_of" : PySem.Str), ("parts_raw" : PySem.Str), ("link_then" : PySem.Str)]
def nm1 : List PySem.Str := [("link_or" : PySem.Str), ("link_of" : PySem.Str), ("ends_raw" : PySem.Str), ("need_program" : PySem.Str), ("ends" : PySem.Str), ("are_two_kinds" : PySem.Str), ("need_two_programs" : PySem.Str), ("judge_alike" : PySem.Str), ("alike_holds" : PySem.Str), ("MOST_THROWS" : PySem.Str), ("raw_both" : PySem.Str), ("raw_row" : PySem.Str), ("is_throw_like" : PySem.Str), ("row_of" : PySem.Str), ("power" : PySem.Str), ("_law_deck" : PySem.Str), ("_law_draw" : PySem.Str), ("_law_pick" : PySem.Str), ("_law_some" : PySem.Str), ("_law_same" : PySem.Str), ("_law_throw" : PySem.Str), ("_law_inner" : PySem.Str), ("_law_program" : PySem.Str), ("_law_falls" : PySem.Str), ("_law_ends" : PySem.Str), ("_law_pairs" : PySem.Str), ("_law_unlike" : PySem.Str), ("_law_is_told" : PySem.Str), ("_law_is_judged" : PySem.Str), ("_law_put" : PySem.Str), ("_law_are_throws" : PySem.Str), ("_law_are_six" : PySem.Str)]
def nms : List PySem.Str := nm0 ++ nm1
def ex (K : PySem.W.Frag) : Bool := conB K glT && tabB K gdT
abbrev R : PySem.W.OpenRow := PySem.W.OpenLaw.row PySem.Challenge.rw_lotthrows_k82_whole_programs_alike_by_tw
abbrev hk : PySem.W.Hook := He.hookX 4 fa fn (tabs gdT) [] ex
def ob (s : PySem.W.SharedT) : He.AlX := He.obsX 4 fa fn (tabs gdT) [] ex (HandSHeadRun.getT s)
theorem ob_eq (s : PySem.W.SharedT) : ob s = hk.obs s.abs := He.obsX_eq (HandSHeadRun.getT_eq s)
theorem runF (w : World) : HandSHeadRun.RunEq R (PySem.W.view R.prog [76]) hk ob 6000 nms (w.withFollow "special-get-raises" false) := by
  intro os
  kernel_rfl
theorem runT (w : World) : HandSHeadRun.RunEq R (PySem.W.view R.prog [76]) hk ob 6000 nms (w.withFollow "special-get-raises" true) := by
  intro os
  kernel_rfl
theorem run (w : World) : HandSHeadRun.RunEq R (PySem.W.view R.prog [76]) hk ob 6000 nms w := PySem.W.byRow2 "special-get-raises" (P := fun w => HandSHeadRun.RunEq R (PySem.W.view R.prog [76]) hk ob 6000 nms w) runF runT w
theorem c0 : DefC prg kws frees fa d0 (dd 10 "is_integer") := ⟨rfl, rfl, rfl, rfl, fa_glo (by decide +kernel), ⟨rfl, rfl, rfl, by decide +kernel, rfl, by decide +kernel, by decide +kernel⟩, by decide +kernel, fun _ _ _ _ _ _ us hl => match us, hl with | [_], _ => rfl⟩
theorem c1 : DefC prg kws frees fa d1 (dd 11 "is_between") := ⟨rfl, rfl, rfl, rfl, fa_glo (by decide +kernel), ⟨rfl, rfl, rfl, by decide +kernel, rfl, by decide +kernel, by decide +kernel⟩, by decide +kernel, fun _ _ _ _ _ _ us hl => match us, hl with | [_, _, _], _ => rfl⟩
theorem c2 : DefC prg kws frees fa d2 (dd 12 "are_between") := ⟨rfl, rfl, rfl, rfl, fa_glo (by decide +kernel), ⟨rfl, rfl, rfl, by decide +kernel, rfl, by decide +kernel, by decide +kernel⟩, by decide +kernel, fun _ _ _ _ _ _ us hl => match us, hl with | [_, _, _], _ => rfl⟩
theorem c3 : DefC prg kws frees fa d3 (dd 13 "is_word") := ⟨rfl, rfl, rfl, rfl, fa_glo (by decide +kernel), ⟨rfl, rfl, rfl, by decide +kernel, rfl, by decide +kernel, by decide +kernel⟩, by decide +kernel, fun _ _ _ _ _ _ us hl => match us, hl with | [_, _], _ => rfl⟩
theorem c4 : DefC prg kws frees fa d4 (dd 14 "is_size") := ⟨rfl, rfl, rfl, rfl, fa_glo (by decide +kernel), ⟨rfl, rfl, rfl, by decide +kernel, rfl, by decide +kernel, by decide +kernel⟩, by decide +kernel, fun _ _ _ _ _ _ us hl => match us, hl with | [_], _ => rfl⟩
theorem c5 : DefC prg kws frees fa d5 (dd 15 "is_lot_value") := ⟨rfl, rfl, rfl, rfl, fa_glo (by decide +kernel), ⟨rfl, rfl, rfl, by decide +kernel, rfl, by decide +kernel, by decide +kernel⟩, by decide +kernel, fun _ _ _ _ _ _ us hl => match us, hl with | [_], _ => rfl⟩
theorem c6 : DefC prg kws frees fa d6 (dd 16 "is_throw_value") := ⟨rfl, rfl, rfl, rfl, fa_glo (by decide +kernel), ⟨rfl, rfl, rfl, by decide +kernel, rfl, by decide +kernel, by decide +kernel⟩, by decide +kernel, fun _ _ _ _ _ _ us hl => match us, hl with | [_], _ => rfl⟩
theorem c7 : DefC prg kws frees fa d7 (dd 18 "need_size") := ⟨rfl, rfl, rfl, rfl, fa_glo (by decide +kernel), ⟨rfl, rfl, rfl, by decide +kernel, rfl, by decide +kernel, by decide +kernel⟩, by decide +kernel, fun _ _ _ _ _ _ us hl => match us, hl with | [_], _ => rfl⟩
theorem c8 : DefC prg kws frees fa d8 (dd 19 "need_throw") := ⟨rfl, rfl, rfl, rfl, fa_glo (by decide +kernel), ⟨rfl, rfl, rfl, by decide +kernel, rfl, by decide +kernel, by decide +kernel⟩, by decide +kernel, fun _ _ _ _ _ _ us hl => match us, hl with | [_], _ => rfl⟩
theorem c9 : DefC prg kws frees fa d9 (dd 20 "need_kind") := ⟨rfl, rfl, rfl, rfl, fa_glo (by decide +kernel), ⟨rfl, rfl, rfl, by decide +kernel, rfl, by decide +kernel, by decide +kernel⟩, by decide +kernel, fun _ _ _ _ _ _ us hl => match us, hl with | [_, _], _ => rfl⟩
theorem c10 : DefC prg kws frees fa d10 (dd 21 "need_number") := ⟨rfl, rfl, rfl, rfl, fa_glo (by decide +kernel), ⟨rfl, rfl, rfl, by decide +kernel, rfl, by decide +kernel, by decide +kernel⟩, by decide +kernel, fun _ _ _ _ _ _ us hl => match us, hl with | [_], _ => rfl⟩
theorem c11 : DefC prg kws frees fa d11 (dd 27 "raw_size") := ⟨rfl, rfl, rfl, rfl, fa_glo (by decide +kernel), ⟨rfl, rfl, rfl, by decide +kernel, rfl, by decide +kernel, by decide +kernel⟩, by decide +kernel, fun _ _ _ _ _ _ us hl => match us, hl with | [_], _ => rfl⟩
theorem c12 : DefC prg kws frees fa d12 (dd 28 "raw_lot_of") := ⟨rfl, rfl, rfl, rfl, fa_glo (by decide +kernel), ⟨rfl, rfl, rfl, by decide +kernel, rfl, by decide +kernel, by decide +kernel⟩, by decide +kernel, fun _ _ _ _ _ _ us hl => match us, hl with | [_, _], _ => rfl⟩
theorem c13 : DefC prg kws frees fa d13 (dd 29 "raw_way") := ⟨rfl, rfl, rfl, rfl, fa_glo (by decide +kernel), ⟨rfl, rfl, rfl, by decide +kernel, rfl, by decide +kernel, by decide +kernel⟩, by decide +kernel, fun _ _ _ _ _ _ us hl => match us, hl with | [_, _, _], _ => rfl⟩
theorem c14 : DefC prg kws frees fa d14 (dd 30 "one_lot") := ⟨rfl, rfl, rfl, rfl, fa_glo (by decide +kernel), ⟨rfl, rfl, rfl, by decide +kernel, rfl, by decide +kernel, by decide +kernel⟩, by decide +kernel, fun _ _ _ _ _ _ us hl => match us, hl with | [_, _], _ => rfl⟩
theorem c15 : DefC prg kws frees fa d15 (dd 37 "is_part_lot") := ⟨rfl, rfl, rfl, rfl, fa_glo (by decide +kernel), ⟨rfl, rfl, rfl, by decide +kernel, rfl, by decide +kernel, by decide +kernel⟩, by decide +kernel, fun _ _ _ _ _ _ us hl => match us, hl with | [_, _], _ => rfl⟩
theorem c16 : DefC prg kws frees fa d16 (dd 38 "inner_of") := ⟨rfl, rfl, rfl, rfl, fa_glo (by decide +kernel), ⟨rfl, rfl, rfl, by decide +kernel, rfl, by decide +kernel, by decide +kernel⟩, by decide +kernel, fun _ _ _ _ _ _ us hl => match us, hl with | [_, _], _ => rfl⟩
theorem c17 : DefC prg kws frees fa d17 (dd 39 "parts_raw") := ⟨rfl, rfl, rfl, rfl, fa_glo (by decide +kernel), ⟨rfl, rfl, rfl, by decide +kernel, rfl, by decide +kernel, by decide +kernel⟩, by decide +kernel, fun _ _ _ _ _ _ us hl => match us, hl with | [_, _], _ => rfl⟩
theorem c18 : DefC prg kws frees fa d18 (dd 40 "link_then") := ⟨rfl, rfl, rfl, rfl, fa_glo (by decide +kernel), ⟨rfl, rfl, rfl, by decide +kernel, rfl, by decide +kernel, by decide +kernel⟩, by decide +kernel, fun _ _ _ _ _ _ us hl => match us, hl with | [_, _], _ => rfl⟩
theorem c19 : DefC prg kws frees fa d19 (dd 41 "link_or") := ⟨rfl, rfl, rfl, rfl, fa_glo (by decide +kernel), ⟨rfl, rfl, rfl, by decide +kernel, rfl, by decide +kernel, by decide +kernel⟩, by decide +kernel, fun _ _ _ _ _ _ us hl => match us, hl with | [_, _], _ => rfl⟩
theorem c20 : DefC prg kws frees fa d20 (dd 42 "link_of") := ⟨rfl, rfl, rfl, rfl, fa_glo (by decide +kernel), ⟨rfl, rfl, rfl, by decide +kernel, rfl, by decide +kernel, by decide +kernel⟩, by decide +kernel, fun _ _ _ _ _ _ us hl => match us, hl with | [_, _, _], _ => rfl⟩
theorem c21 : DefC prg kws frees fa d21 (dd 43 "ends_raw") := ⟨rfl, rfl, rfl, rfl, fa_glo (by decide +kernel), ⟨rfl, rfl, rfl, by decide +kernel, rfl, by decide +kernel, by decide +kernel⟩, by decide +kernel, fun _ _ _ _ _ _ us hl => match us, hl with | [_, _, _], _ => rfl⟩
theorem c22 : DefC prg kws frees fa d22 (dd 45 "need_program") := ⟨rfl, rfl, rfl, rfl, fa_glo (by decide +kernel), ⟨rfl, rfl, rfl, by decide +kernel, rfl, by decide +kernel, by decide +kernel⟩, by decide +kernel, fun _ _ _ _ _ _ us hl => match us, hl with | [_, _], _ => rfl⟩
theorem c23 : DefC prg kws frees fa d23 (dd 46 "ends") := ⟨rfl, rfl, rfl, rfl, fa_glo (by decide +kernel), ⟨rfl, rfl, rfl, by decide +kernel, rfl, by decide +kernel, by decide +kernel⟩, by decide +kernel, fun _ _ _ _ _ _ us hl => match us, hl with | [_, _, _, _], _ => rfl⟩
theorem c24 : DefC prg kws frees fa d24 (dd 47 "are_two_kinds") := ⟨rfl, rfl, rfl, rfl, fa_glo (by decide +kernel), ⟨rfl, rfl, rfl, by decide +kernel, rfl, by decide +kernel, by decide +kernel⟩, by decide +kernel, fun _ _ _ _ _ _ us hl => match us, hl with | [_, _], _ => rfl⟩
theorem c25 : DefC prg kws frees fa d25 (dd 48 "need_two_programs") := ⟨rfl, rfl, rfl, rfl, fa_glo (by decide +kernel), ⟨rfl, rfl, rfl, by decide +kernel, rfl, by decide +kernel, by decide +kernel⟩, by decide +kernel, fun _ _ _ _ _ _ us hl => match us, hl with | [_, _, _], _ => rfl⟩
theorem c26 : DefC prg kws frees fa d26 (dd 49 "judge_alike") := ⟨rfl, rfl, rfl, rfl, fa_glo (by decide +kernel), ⟨rfl, rfl, rfl, by decide +kernel, rfl, by decide +kernel, by decide +kernel⟩, by decide +kernel, fun _ _ _ _ _ _ us hl => match us, hl with | [_, _, _], _ => rfl⟩
theorem c27 : DefC prg kws frees fa d27 (dd 50 "alike_holds") := ⟨rfl, rfl, rfl, rfl, fa_glo (by decide +kernel), ⟨rfl, rfl, rfl, by decide +kernel, rfl, by decide +kernel, by decide +kernel⟩, by decide +kernel, fun _ _ _ _ _ _ us hl => match us, hl with | [_, _, _, _], _ => rfl⟩
theorem c28 : DefC prg kws frees fa d28 (dd 53 "raw_both") := ⟨rfl, rfl, rfl, rfl, fa_glo (by decide +kernel), ⟨rfl, rfl, rfl, by decide +kernel, rfl, by decide +kernel, by decide +kernel⟩, by decide +kernel, fun _ _ _ _ _ _ us hl => match us, hl with | [_, _], _ => rfl⟩
theorem c29 : DefC prg kws frees fa d29 (dd 54 "raw_row") := ⟨rfl, rfl, rfl, rfl, fa_glo (by decide +kernel), ⟨rfl, rfl, rfl, by decide +kernel, rfl, by decide +kernel, by decide +kernel⟩, by decide +kernel, fun _ _ _ _ _ _ us hl => match us, hl with | [_, _], _ => rfl⟩
theorem c30 : DefC prg kws frees fa d30 (dd 55 "is_throw_like") := ⟨rfl, rfl, rfl, rfl, fa_glo (by decide +kernel), ⟨rfl, rfl, rfl, by decide +kernel, rfl, by decide +kernel, by decide +kernel⟩, by decide +kernel, fun _ _ _ _ _ _ us hl => match us, hl with | [_, _], _ => rfl⟩
theorem c31 : DefC prg kws frees fa d31 (dd 56 "row_of") := ⟨rfl, rfl, rfl, rfl, fa_glo (by decide +kernel), ⟨rfl, rfl, rfl, by decide +kernel, rfl, by decide +kernel, by decide +kernel⟩, by decide +kernel, fun _ _ _ _ _ _ us hl => match us, hl with | [_, _], _ => rfl⟩
theorem c32 : DefC prg kws frees fa d32 (dd 57 "power") := ⟨rfl, rfl, rfl, rfl, fa_glo (by decide +kernel), ⟨rfl, rfl, rfl, by decide +kernel, rfl, by decide +kernel, by decide +kernel⟩, by decide +kernel, fun _ _ _ _ _ _ us hl => match us, hl with | [_, _], _ => rfl⟩
theorem c33 : DefC prg kws frees fa d33 (dd 59 "_law_deck") := ⟨rfl, rfl, rfl, rfl, fa_glo (by decide +kernel), ⟨rfl, rfl, rfl, by decide +kernel, rfl, by decide +kernel, by decide +kernel⟩, by decide +kernel, fun _ _ _ _ _ _ us hl => match us, hl with | [_, _], _ => rfl⟩
theorem c34 : DefC prg kws frees fa d34 (dd 60 "_law_draw") := ⟨rfl, rfl, rfl, rfl, fa_glo (by decide +kernel), ⟨rfl, rfl, rfl, by decide +kernel, rfl, by decide +kernel, by decide +kernel⟩, by decide +kernel, fun _ _ _ _ _ _ us hl => match us, hl with | [_, _], _ => rfl⟩
theorem c35 : DefC prg kws frees fa d35 (dd 61 "_law_pick") := ⟨rfl, rfl, rfl, rfl, fa_glo (by decide +kernel), ⟨rfl, rfl, rfl, by decide +kernel, rfl, by decide +kernel, by decide +kernel⟩, by decide +kernel, fun _ _ _ _ _ _ us hl => match us, hl with | [_, _], _ => rfl⟩
theorem c36 : DefC prg kws frees fa d36 (dd 62 "_law_some") := ⟨rfl, rfl, rfl, rfl, fa_glo (by decide +kernel), ⟨rfl, rfl, rfl, by decide +kernel, rfl, by decide +kernel, by decide +kernel⟩, by decide +kernel, fun _ _ _ _ _ _ us hl => match us, hl with | [_, _, _], _ => rfl⟩
theorem c37 : DefC prg kws frees fa d37 (dd 63 "_law_same") := ⟨rfl, rfl, rfl, rfl, fa_glo (by decide +kernel), ⟨rfl, rfl, rfl, by decide +kernel, rfl, by decide +kernel, by decide +kernel⟩, by decide +kernel, fun _ _ _ _ _ _ us hl => match us, hl with | [_, _], _ => rfl⟩
theorem c38 : DefC prg kws frees fa d38 (dd 64 "_law_throw") := ⟨rfl, rfl, rfl, rfl, fa_glo (by decide +kernel), ⟨rfl, rfl, rfl, by decide +kernel, rfl, by decide +kernel, by decide +kernel⟩, by decide +kernel, fun _ _ _ _ _ _ us hl => match us, hl with | [_, _], _ => rfl⟩
theorem c39 : DefC prg kws frees fa d39 (dd 65 "_law_inner") := ⟨rfl, rfl, rfl, rfl, fa_glo (by decide +kernel), ⟨rfl, rfl, rfl, by decide +kernel, rfl, by decide +kernel, by decide +kernel⟩, by decide +kernel, fun _ _ _ _ _ _ us hl => match us, hl with | [_], _ => rfl⟩
theorem c40 : DefC prg kws frees fa d40 (dd 66 "_law_program") := ⟨rfl, rfl, rfl, rfl, fa_glo (by decide +kernel), ⟨rfl, rfl, rfl, by decide +kernel, rfl, by decide +kernel, by decide +kernel⟩, by decide +kernel, fun _ _ _ _ _ _ us hl => match us, hl with | [_, _, _, _], _ => rfl⟩
theorem c41 : DefC prg kws frees fa d41 (dd 67 "_law_falls") := ⟨rfl, rfl, rfl, rfl, fa_glo (by decide +kernel), ⟨rfl, rfl, rfl, by decide +kernel, rfl, by decide +kernel, by decide +kernel⟩, by decide +kernel, fun _ _ _ _ _ _ us hl => match us, hl with | [_, _, _], _ => rfl⟩
theorem c42 : DefC prg kws frees fa d42 (dd 68 "_law_ends") := ⟨rfl, rfl, rfl, rfl, fa_glo (by decide +kernel), ⟨rfl, rfl, rfl, by decide +kernel, rfl, by decide +kernel, by decide +kernel⟩, by decide +kernel, fun _ _ _ _ _ _ us hl => match us, hl with | [_, _, _], _ => rfl⟩
theorem c43 : DefC prg kws frees fa d43 (dd 69 "_law_pairs") := ⟨rfl, rfl, rfl, rfl, fa_glo (by decide +kernel), ⟨rfl, rfl, rfl, by decide +kernel, rfl, by decide +kernel, by decide +kernel⟩, by decide +kernel, fun _ _ _ _ _ _ us hl => match us, hl with | [_], _ => rfl⟩
theorem c44 : DefC prg kws frees fa d44 (dd 70 "_law_unlike") := ⟨rfl, rfl, rfl, rfl, fa_glo (by decide +kernel), ⟨rfl, rfl, rfl, by decide +kernel, rfl, by decide +kernel, by decide +kernel⟩, by decide +kernel, fun _ _ _ _ _ _ us hl => match us, hl with | [_, _, _], _ => rfl⟩
theorem c45 : DefC prg kws frees fa d45 (dd 71 "_law_is_told") := ⟨rfl, rfl, rfl, rfl, fa_glo (by decide +kernel), ⟨rfl, rfl, rfl, by decide +kernel, rfl, by decide +kernel, by decide +kernel⟩, by decide +kernel, fun _ _ _ _ _ _ us hl => match us, hl with | [_, _, _, _], _ => rfl⟩
theorem c46 : DefC prg kws frees fa d46 (dd 72 "_law_is_judged") := ⟨rfl, rfl, rfl, rfl, fa_glo (by decide +kernel), ⟨rfl, rfl, rfl, by decide +kernel, rfl, by decide +kernel, by decide +kernel⟩, by decide +kernel, fun _ _ _ _ _ _ us hl => match us, hl with | [_, _, _, _, _], _ => rfl⟩
theorem c47 : DefC prg kws frees fa d47 (dd 73 "_law_put") := ⟨rfl, rfl, rfl, rfl, fa_glo (by decide +kernel), ⟨rfl, rfl, rfl, by decide +kernel, rfl, by decide +kernel, by decide +kernel⟩, by decide +kernel, fun _ _ _ _ _ _ us hl => match us, hl with | [_, _, _, _, _], _ => rfl⟩
theorem c48 : DefC prg kws frees fa d48 (dd 74 "_law_are_throws") := ⟨rfl, rfl, rfl, rfl, fa_glo (by decide +kernel), ⟨rfl, rfl, rfl, by decide +kernel, rfl, by decide +kernel, by decide +kernel⟩, by decide +kernel, fun _ _ _ _ _ _ us hl => match us, hl with | [_, _], _ => rfl⟩
theorem c49 : DefC prg kws frees fa d49 (dd 75 "_law_are_six") := ⟨rfl, rfl, rfl, rfl, fa_glo (by decide +kernel), ⟨rfl, rfl, rfl, by decide +kernel, rfl, by decide +kernel, by decide +kernel⟩, by decide +kernel, fun _ _ _ _ _ _ us hl => match us, hl with | [_], _ => rfl⟩
theorem c50 : DefC prg kws frees fa d50 (dd 76 "law") := ⟨rfl, rfl, rfl, rfl, fa_glo (by decide +kernel), ⟨rfl, rfl, rfl, by decide +kernel, rfl, by decide +kernel, by decide +kernel⟩, by decide +kernel, fun _ _ _ _ _ _ us hl => match us, hl with | [_], _ => rfl⟩
theorem all_c : ∀ (f : Nat) (d : Df), prg.defs[f]? = some d → ∃ dd : He.DefD, fn[f]? = some dd ∧ DefC prg kws frees fa d dd := AllD.get ((.cons c0 (.cons c1 (.cons c2 (.cons c3 (.cons c4 (.cons c5 (.cons c6 (.cons c7 (.cons c8 (.cons c9 (.cons c10 (.cons c11 (.cons c12 (.cons c13 (.cons c14 (.cons c15 (.cons c16 (.cons c17 (.cons c18 (.cons c19 (.cons c20 (.cons c21 (.cons c22 (.cons c23 (.cons c24 (.cons c25 (.cons c26 (.cons c27 (.cons c28 (.cons c29 (.cons c30 (.cons c31 (.cons c32 (.cons c33 (.cons c34 (.cons c35 (.cons c36 (.cons c37 (.cons c38 (.cons c39 (.cons c40 (.cons c41 (.cons c42 (.cons c43 (.cons c44 (.cons c45 (.cons c46 (.cons c47 (.cons c48 (.cons c49 (.cons c50 .nil))))))))))))))))))))))))))))))))))))))))))))))))))))
theorem all_k : ∀ (f : Nat) (ks : List PySem.Str) (js : List Nat) (d : Df) (dd : He.DefD), (f, ks, js) ∈ kws → prg.defs[f]? = some d → fn[f]? = some dd → kwAt d dd ks js := by
  intro f ks js d dd' h h1 h2
  unfold kws at h
  simp only [List.mem_cons, Prod.mk.injEq, List.not_mem_nil, or_false] at h
  rcases h with ⟨rfl, rfl, rfl⟩ | ⟨rfl, rfl, rfl⟩
  · obtain rfl := Option.some.inj (show some d27 = some d from h1)
    obtain rfl := Option.some.inj (show some (dd 50 "alike_holds") = some dd' from h2)
    exact fun _ _ _ _ _ _ ws hl => match ws, hl with | [_, _, _, _], _ => rfl
  · obtain rfl := Option.some.inj (show some d26 = some d from h1)
    obtain rfl := Option.some.inj (show some (dd 49 "judge_alike") = some dd' from h2)
    exact fun _ _ _ _ _ _ ws hl => match ws, hl with | [_, _, _], _ => rfl
theorem facts {P : Program} {w : World} {K : PySem.W.Frag} {h : Heap} {mg : PySem.Str → Option Value} {f : Addr} (hl : ∀ ns : List Int, ns.length ≤ 63 → ∃ st, evCall prg 60 50 [.scr (ns.map D.int)] [] = some (.bl true, st)) (X : K.In h) (G : h.Ns mainGlobals mg) (hfa : mg ("law" : PySem.Str) = some (.ref f)) (c : He.SaysX fa fn (tabs gdT) [] ex w h K) :
    ∃ fd : FuncData, (∀ (s : Shared) (v : Value), BindsTo s fd ⟨[v], []⟩ [("_law_script", v)]) ∧ ∀ base : Heap, K.In base → base.Ns mainGlobals mg → FnOk P w K mg base Ev.CX0 60 f fd ["_law_script"] (spD K 1 (evCall prg 60 50)) := by
  obtain ⟨fdF, ok, hfd⟩ := pg_of (p := prg) (kws := kws) (frees := frees) X G c rfl rfl (fun _ h => fa_free h) (fun q hq => fa_glo ((show ∀ q ∈ gdT, q.1 ∈ gnm by decide +kernel) q hq)) all_c ⟨_, rfl⟩ all_k
  have ha : f = He.ga K "law" := by
    have e := (ok.defs 50 d50 rfl).at_
    have e2 := hfa.symm.trans e
    cases e2
    rfl
  refine ⟨fdF 50, fun s v => ?_, fun base _ _ => ?_⟩
  · obtain ⟨kV, doc, pm, an, cdv, ct, e⟩ := hfd 50 d50 (dd 76 "law") rfl rfl
    rw [e]
    exact .of_eq (c50.bd kV doc pm an cdv ct [v] rfl)
  · subst ha
    exact fn_all (base := base) ok 60 50 d50 rfl
end K82
open PySem PySem.W PySem.Calls PyProof.Rows
theorem K82.fin (hl : ∀ ns : List Int, ns.length ≤ 63 → ∃ st, Ev.evCall K82.prg 60 50 [.scr (ns.map Ev.D.int)] [] = some (.bl true, st)) : PySem.Challenge.rw_lotthrows_k82_whole_programs_alike_by_tw.Holds := by
  w_on; o_law
  refine HandSHeadRun.head_any (r := OpenLaw.row PySem.Challenge.rw_lotthrows_k82_whole_programs_alike_by_tw) (q := view (OpenLaw.row PySem.Challenge.rw_lotthrows_k82_whole_programs_alike_by_tw).prog [76]) (H := K82.hk) (ob := K82.ob) (M := 6000) (loose := K82.nms) (d := HandSHeadRun.topDef (OpenLaw.row PySem.Challenge.rw_lotthrows_k82_whole_programs_alike_by_tw).prog 76) (kwd := []) K82.ob_eq
    (by kernel_rfl) (fun s => by kernel_rfl) K82.run (by kernel_rfl) (by kernel_rfl) (by kernel_rfl) (by rfl) (by first | assumption | decide +kernel) (by decide +kernel) ⟨rfl, rfl, rfl, rfl, rfl, by decide +kernel⟩ ?hw ?hc
  case hw => w_witness2
  case hc =>
    refine L2.walk_ofE (l := PySem.Challenge.rw_lotthrows_k82_whole_programs_alike_by_tw) (n := 63) (k := 60) (x := "_law_script") (CX := Ev.CX0) rfl (by decide) (by kernel_rfl) ⟨rfl, by decide, by decide⟩ ?F (fun _ _ _ _ z => z)
    intro w mg fa h Y G hmg0
    obtain ⟨K, KX, c⟩ := Y
    have hmg : mg ("law" : PySem.Str) = some (.ref fa) := by
      have e : (HandSHeadRun.topDef (OpenLaw.row PySem.Challenge.rw_lotthrows_k82_whole_programs_alike_by_tw).prog 76).name = ("law" : PySem.Str) := by kernel_rfl
      rw [← e]
      exact hmg0
    obtain ⟨fd, hb, hF⟩ := K82.facts (P := (PySem.Challenge.rw_lotthrows_k82_whole_programs_alike_by_tw).prog) (w := w) hl KX G hmg c
    exact ⟨K, fd, _, KX, hb, fun H a ns hn _ hS => Ev.law_sp hl H a ns hn hS, hF⟩

theorem PySem.Challenge.cw_lotthrows_k82_whole_programs_alike_by_tw_holds : PySem.Challenge.rw_lotthrows_k82_whole_programs_alike_by_tw.Holds :=
  K82.fin K82.hl
