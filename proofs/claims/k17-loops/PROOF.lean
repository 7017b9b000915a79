import PyProof.Rows.All
import Wide.All
import OpenK.AllK
import Wide.FinOn
import HandS.ForMost
import HandS.ForExc
import HandS.Lambda
import HandS.EndTab
import HandS.CallSlots
import HandS.TupAny
import HandS.TupMul
import HandS.Deep
import HandS.Style
import HandS.Zip
import HandS.IsInst
import HandS.Strs
import HandS.SetFor
import HandS.DictComp
import HandS.TupLe
import KE.KDictKeyed
import HandS.ExcIs
import HandS.Defaults
import KE.GoesEnum
import KE.GoesMore
import KE.KDictZip
import KE.KDictList
import HandS.Keys
import HandS.CallLocal
import HandS.Conv
import KE.DataMinMax
import KE.SortData
import HandS.More
import KE.KStateDown
import HandS.Head0
import HandS.Head1
import HandS.Head2
import HandS.HeadEnd
import HandS.HeadHook1
import HandS.HeadHook2
import HandS.HeadHook3
import HandS.HeadHook4
import HandS.HeadWalk
import PySem.Challenge.RW_keyfingers_k17_loops
set_option Elab.async false
set_option linter.all false
set_option maxRecDepth 100000
set_option maxHeartbeats 4000000
/-! KF1: data as trees, what stands for them in the abstract heap, the state that a run carries. -/
namespace KF
open PySem PySem.Spec PyProof.Rows L2

/-- the package's exceptions -/
inductive XC where
  | cannot | finger | fingering | hand | keys | note | passage | pattern | place | step | text | times | played | undo | long
  deriving DecidableEq
def nameX : XC → Str
  | .cannot => "CannotPlay" | .finger => "InvalidFinger" | .fingering => "InvalidFingering" | .hand => "InvalidHand" | .keys => "InvalidKeys" | .note => "InvalidNote" | .passage => "InvalidPassage"
  | .pattern => "InvalidPattern" | .place => "InvalidPlace" | .step => "InvalidStep" | .text => "InvalidText" | .times => "InvalidTimes" | .played => "NothingPlayed" | .undo => "NothingToUndo" | .long => "TooLong"
/-- data: what an expression gives -/
inductive D where
  | non | bl (b : Bool) | int (i : Int) | str (x : Str) | tup (l : List D) | lst (l : List D) | dic (ks vs : List D) | fn (f : Nat) | obj (n : Nat) | scr (l : List Int) | exc (c : XC) | dnt (ks vs : List D)
/-- a slot of a frame: nothing known, a value that stays as it is, a list or dict that this frame alone holds -/
inductive Sl where
  | un | fz (d : D) | ow (d : D)
abbrev En := List Sl
/-- objects that are changed by several defs -/
inductive Ob where
  | town (count : Int) (rests : List (Int × Int))
abbrev Tau := List Ob
inductive Res (α : Type) where
  | ok (a : α) (t : Tau) | exc (c : XC) (t : Tau) | stuck
abbrev M (α : Type) := Tau → Res α
def M.ret {α : Type} (a : α) : M α := fun t => .ok a t
def M.bnd {α β : Type} (m : M α) (k : α → M β) : M β := fun t => match m t with
  | .ok a t' => k a t'
  | .exc c t' => .exc c t'
  | .stuck => .stuck
def M.raise {α : Type} (c : XC) : M α := fun t => .exc c t
def M.fail {α : Type} : M α := fun _ => .stuck
def M.opt {α : Type} : Option α → M α
  | some a => M.ret a
  | none => M.fail
instance : Monad M where
  pure := M.ret
  bind := M.bnd

structure GC where
  K : PySem.W.Frag
  mg : Str → Option Value
  nm : Nat → Str
  T : List (Addr × Str)
  w : World

/-- an exception that was caught -/
def ExCO (cls : Value) (a : Addr) : HO := .ext fun h => ∃ (oe : Obj) (vs : Array Value), h.get? a = some oe ∧ Zc cls none oe ∧ oe.data = .fields vs
/-- a dict as it stands -/
def RawE (a : Addr) (es : Array DictEntry) (ep : Nat) : HO := .ext fun h => ∃ o, h.get? a = some o ∧ o.ExactDict ∧ o.data = .dict es ep
mutual
/-- data as a key -/
def nkD : D → Option NestedKey
  | .non => some .none
  | .int i => some (.num i)
  | .str x => some (.text x)
  | .tup l => (nkDs l).map .tup
  | _ => none
def nkDs : List D → Option (List NestedKey)
  | [] => some []
  | d :: ds => (nkD d).bind fun k => (nkDs ds).map fun ks => k :: ks
end
abbrev Ent := NestedKey × Addr × Value
def entN (w : World) (x : Ent) : DictEntry := ⟨x.1.hash w, .ref x.2.1, x.2.2⟩
def keyD : Key → D
  | .inl i => .int i
  | .inr x => .str x
mutual
def Rp (G : GC) (oa : List (List Addr)) (H : Hp) : D → V → Prop
  | .non, v => v = .non
  | .bl b, v => v = .bl b
  | .int i, v => v = .int i
  | .str x, v => v = .str x
  | .tup ds, v => ∃ a xs, v = .ref a ∧ SqT G.K H a xs ∧ RpA G oa H ds xs
  | .lst ds, v => ∃ a xs, v = .ref a ∧ Rd H a (.lst xs) ∧ RpA G oa H ds xs
  | .dic ks ds, v => ∃ a o es, v = .ref a ∧ H a = some (.frz o (.dK es)) ∧ es.map (fun e => keyD e.1) = ks ∧ RpA G oa H ds (es.map (·.2))
  | .fn f, v => ∃ a, v = .ref a ∧ G.mg (G.nm f) = some (.ref a)
  | .obj n, v => ∃ a r, v = .ref a ∧ oa[n]? = some (a :: r)
  | .scr l, v => ∃ a, v = .ref a ∧ SqL G.K H a (l.map V.int)
  | .exc c, v => ∃ a C, v = .ref a ∧ G.mg (nameX c) = some (.ref C) ∧ H a = some (ExCO (.ref C) a)
  | .dnt ks ds, v => ∃ (a : Addr) (es : Array DictEntry) (ep : Nat) (xs : List Ent) (ws : List V), v = .ref a ∧ H a = some (RawE a es ep) ∧ (a == sysModules) = false ∧ es.toList = xs.map (entN G.w) ∧ (xs.map (·.1)).Nodup ∧ ks.map nkD = xs.map (fun x => some x.1) ∧ (∀ x ∈ xs, x.1.depth ≤ 8) ∧ RpA G oa H ks (xs.map fun x => V.ref x.2.1) ∧ Vals ws (xs.map (·.2.2)) ∧ RpA G oa H ds ws
def RpA (G : GC) (oa : List (List Addr)) (H : Hp) : List D → List V → Prop
  | [], vs => vs = []
  | d :: ds, vs => ∃ v r, vs = v :: r ∧ Rp G oa H d v ∧ RpA G oa H ds r
end

abbrev Ex (H H' : Hp) : Prop := ∀ a o, H a = some o → H' a = some o
theorem Ex.rfl' {H : Hp} : Ex H H := fun _ _ h => h
theorem Ex.tr {H H1 H2 : Hp} (a : Ex H H1) (b : Ex H1 H2) : Ex H H2 := fun x o h => b x o (a x o h)
theorem Ex.rd {H H' : Hp} {a : Addr} {u : HO} (e : Ex H H') (h : Rd H a u) : Rd H' a u := by
  rcases h with h | ⟨o, h⟩
  · exact .inl (e a _ h)
  · exact .inr ⟨o, e a _ h⟩
theorem Ex.l {K : PySem.W.Frag} {H H' : Hp} {a : Addr} {xs : List V} (e : Ex H H') (h : SqL K H a xs) : SqL K H' a xs := by
  rcases h with h | h
  · exact .inl (e.rd h)
  · exact .inr h
theorem Ex.t {K : PySem.W.Frag} {H H' : Hp} {a : Addr} {xs : List V} (e : Ex H H') (h : SqT K H a xs) : SqT K H' a xs := by
  rcases h with h | h
  · exact .inl (e.rd h)
  · exact .inr h

/-- the objects' places go on -/
def OaX (oa oa' : List (List Addr)) : Prop := ∀ (n : Nat) l, oa[n]? = some l → oa'[n]? = some l
theorem OaX.rfl' {oa : List (List Addr)} : OaX oa oa := fun _ _ h => h
theorem OaX.tr {a b c : List (List Addr)} (h : OaX a b) (k : OaX b c) : OaX a c := fun n l e => k n l (h n l e)
mutual
theorem Rp.mono {G : GC} {oa oa' : List (List Addr)} {H H' : Hp} (e : Ex H H') (o : OaX oa oa') : ∀ {d : D} {v : V}, Rp G oa H d v → Rp G oa' H' d v
  | .non, _, h => by rw [Rp] at h ⊢; exact h
  | .bl _, _, h => by rw [Rp] at h ⊢; exact h
  | .int _, _, h => by rw [Rp] at h ⊢; exact h
  | .str _, _, h => by rw [Rp] at h ⊢; exact h
  | .tup ds, _, h => by
    rw [Rp] at h ⊢
    obtain ⟨a, xs, e1, e2, e3⟩ := h
    exact ⟨a, xs, e1, e.t e2, RpA.mono e o e3⟩
  | .lst ds, _, h => by
    rw [Rp] at h ⊢
    obtain ⟨a, xs, e1, e2, e3⟩ := h
    exact ⟨a, xs, e1, e.rd e2, RpA.mono e o e3⟩
  | .dic ks ds, _, h => by
    rw [Rp] at h ⊢
    obtain ⟨a, ob, xs, e1, e2, e3, e4⟩ := h
    exact ⟨a, ob, xs, e1, e _ _ e2, e3, RpA.mono e o e4⟩
  | .fn _, _, h => by rw [Rp] at h ⊢; exact h
  | .obj n, _, h => by
    rw [Rp] at h ⊢
    obtain ⟨a, r, e1, e2⟩ := h
    exact ⟨a, r, e1, o n _ e2⟩
  | .scr _, _, h => by
    rw [Rp] at h ⊢
    obtain ⟨a, e1, e2⟩ := h
    exact ⟨a, e1, e.l e2⟩
  | .exc _, _, h => by
    rw [Rp] at h ⊢
    obtain ⟨a, C, e1, e2, e3⟩ := h
    exact ⟨a, C, e1, e2, e _ _ e3⟩
  | .dnt _ _, _, h => by
    rw [Rp] at h ⊢
    obtain ⟨a, es, ep, xs, ws, e1, e2, e3, e4, e5, e6, e7, e8, e9, e10⟩ := h
    exact ⟨a, es, ep, xs, ws, e1, e _ _ e2, e3, e4, e5, e6, e7, RpA.mono e o e8, e9, RpA.mono e o e10⟩
theorem RpA.mono {G : GC} {oa oa' : List (List Addr)} {H H' : Hp} (e : Ex H H') (o : OaX oa oa') : ∀ {ds : List D} {vs : List V}, RpA G oa H ds vs → RpA G oa' H' ds vs
  | [], _, h => by rw [RpA] at h ⊢; exact h
  | d :: ds, _, h => by
    rw [RpA] at h ⊢
    obtain ⟨v, r, e1, e2, e3⟩ := h
    exact ⟨v, r, e1, Rp.mono e o e2, RpA.mono e o e3⟩
end
section
variable {G : GC} {oa : List (List Addr)} {H : Hp}
theorem rp_int {i : Int} {v : V} : Rp G oa H (.int i) v ↔ v = .int i := by rw [Rp]
theorem rp_bl {i : Bool} {v : V} : Rp G oa H (.bl i) v ↔ v = .bl i := by rw [Rp]
theorem rp_non {v : V} : Rp G oa H .non v ↔ v = .non := by rw [Rp]
theorem rp_str {i : Str} {v : V} : Rp G oa H (.str i) v ↔ v = .str i := by rw [Rp]
theorem rp_tup {ds : List D} {v : V} : Rp G oa H (.tup ds) v ↔ ∃ a xs, v = .ref a ∧ SqT G.K H a xs ∧ RpA G oa H ds xs := by rw [Rp]
theorem rp_scr {l : List Int} {v : V} : Rp G oa H (.scr l) v ↔ ∃ a, v = .ref a ∧ SqL G.K H a (l.map V.int) := by rw [Rp]
theorem rp_lst {ds : List D} {v : V} : Rp G oa H (.lst ds) v ↔ ∃ a xs, v = .ref a ∧ Rd H a (.lst xs) ∧ RpA G oa H ds xs := by rw [Rp]
theorem rp_exc {c : XC} {v : V} : Rp G oa H (.exc c) v ↔ ∃ a C, v = .ref a ∧ G.mg (nameX c) = some (.ref C) ∧ H a = some (ExCO (.ref C) a) := by rw [Rp]
theorem rp_dnt {ks ds : List D} {v : V} : Rp G oa H (.dnt ks ds) v ↔ ∃ (a : Addr) (es : Array DictEntry) (ep : Nat) (xs : List Ent) (ws : List V), v = .ref a ∧ H a = some (RawE a es ep) ∧ (a == sysModules) = false ∧ es.toList = xs.map (entN G.w) ∧ (xs.map (·.1)).Nodup ∧ ks.map nkD = xs.map (fun x => some x.1) ∧ (∀ x ∈ xs, x.1.depth ≤ 8) ∧ RpA G oa H ks (xs.map fun x => V.ref x.2.1) ∧ Vals ws (xs.map (·.2.2)) ∧ RpA G oa H ds ws := by rw [Rp]
theorem rp_dic {ks ds : List D} {v : V} : Rp G oa H (.dic ks ds) v ↔ ∃ a o es, v = .ref a ∧ H a = some (.frz o (.dK es)) ∧ es.map (fun e => keyD e.1) = ks ∧ RpA G oa H ds (es.map (·.2)) := by rw [Rp]
theorem rp_fn {f : Nat} {v : V} : Rp G oa H (.fn f) v ↔ ∃ a, v = .ref a ∧ G.mg (G.nm f) = some (.ref a) := by rw [Rp]
theorem rp_obj {n : Nat} {v : V} : Rp G oa H (.obj n) v ↔ ∃ a r, v = .ref a ∧ oa[n]? = some (a :: r) := by rw [Rp]
theorem rpa_nil {vs : List V} : RpA G oa H [] vs ↔ vs = [] := by rw [RpA]
theorem rpa_cons {d : D} {ds : List D} {vs : List V} : RpA G oa H (d :: ds) vs ↔ ∃ v r, vs = v :: r ∧ Rp G oa H d v ∧ RpA G oa H ds r := by rw [RpA]
theorem RpA.length : ∀ {ds : List D} {vs : List V}, RpA G oa H ds vs → vs.length = ds.length
  | [], _, h => by rw [rpa_nil] at h; subst h; rfl
  | d :: ds, _, h => by
    rw [rpa_cons] at h
    obtain ⟨v, r, rfl, _, h⟩ := h
    show r.length + 1 = ds.length + 1
    rw [RpA.length h]
theorem RpA.get : ∀ {ds : List D} {vs : List V} {i : Nat} {d : D}, RpA G oa H ds vs → ds[i]? = some d → ∃ v, vs[i]? = some v ∧ Rp G oa H d v
  | [], _, _, _, _, e => by simp at e
  | d :: ds, _, 0, _, h, e => by
    rw [rpa_cons] at h
    obtain ⟨v, r, rfl, h1, _⟩ := h
    simp at e; subst e
    exact ⟨v, rfl, h1⟩
  | d :: ds, _, i + 1, _, h, e => by
    rw [rpa_cons] at h
    obtain ⟨v, r, rfl, _, h⟩ := h
    obtain ⟨w, e1, e2⟩ := RpA.get (i := i) h (by simpa using e)
    exact ⟨w, by simpa using e1, e2⟩
theorem RpA.append : ∀ {ds es : List D} {vs ws : List V}, RpA G oa H ds vs → RpA G oa H es ws → RpA G oa H (ds ++ es) (vs ++ ws)
  | [], _, _, _, h, k => by rw [rpa_nil] at h; subst h; exact k
  | d :: ds, _, _, _, h, k => by
    rw [rpa_cons] at h
    obtain ⟨v, r, rfl, h1, h⟩ := h
    exact rpa_cons.mpr ⟨v, r ++ _, rfl, h1, RpA.append h k⟩
theorem RpA.one {d : D} {v : V} (h : Rp G oa H d v) : RpA G oa H [d] [v] := rpa_cons.mpr ⟨v, [], rfl, h, rpa_nil.mpr rfl⟩
theorem RpA.snoc {ds : List D} {vs : List V} {d : D} {v : V} (h : RpA G oa H ds vs) (k : Rp G oa H d v) : RpA G oa H (ds ++ [d]) (vs ++ [v]) := h.append (.one k)
theorem RpA.take : ∀ {ds : List D} {vs : List V} (n : Nat), RpA G oa H ds vs → RpA G oa H (ds.take n) (vs.take n)
  | _, _, 0, _ => rpa_nil.mpr rfl
  | [], _, n + 1, h => by rw [rpa_nil] at h; subst h; exact rpa_nil.mpr rfl
  | d :: ds, _, n + 1, h => by
    rw [rpa_cons] at h
    obtain ⟨v, r, rfl, h1, h⟩ := h
    exact rpa_cons.mpr ⟨v, r.take n, rfl, h1, RpA.take n h⟩
theorem RpA.drop : ∀ {ds : List D} {vs : List V} (n : Nat), RpA G oa H ds vs → RpA G oa H (ds.drop n) (vs.drop n)
  | _, _, 0, h => h
  | [], _, n + 1, h => by rw [rpa_nil] at h; subst h; exact rpa_nil.mpr rfl
  | d :: ds, _, n + 1, h => by
    rw [rpa_cons] at h
    obtain ⟨v, r, rfl, h1, h⟩ := h
    exact RpA.drop n h
theorem RpA.reverse : ∀ {ds : List D} {vs : List V}, RpA G oa H ds vs → RpA G oa H ds.reverse vs.reverse
  | [], _, h => by rw [rpa_nil] at h; subst h; exact rpa_nil.mpr rfl
  | d :: ds, _, h => by
    rw [rpa_cons] at h
    obtain ⟨v, r, rfl, h1, h⟩ := h
    rw [List.reverse_cons, List.reverse_cons]
    exact (RpA.reverse h).snoc h1
theorem RpA.rep {ds : List D} {vs : List V} (h : RpA G oa H ds vs) : ∀ k : Nat, RpA G oa H (List.replicate k ds).flatten (List.replicate k vs).flatten
  | 0 => rpa_nil.mpr rfl
  | k + 1 => by
    rw [List.replicate_succ, List.replicate_succ, List.flatten_cons, List.flatten_cons]
    exact h.append (RpA.rep h k)
theorem RpA.set : ∀ {ds : List D} {vs : List V} (i : Nat) {d : D} {v : V}, RpA G oa H ds vs → Rp G oa H d v → RpA G oa H (ds.set i d) (vs.set i v)
  | [], _, _, _, _, h, _ => by rw [rpa_nil] at h; subst h; exact rpa_nil.mpr rfl
  | d :: ds, _, 0, _, w, h, k => by
    rw [rpa_cons] at h
    obtain ⟨v, r, rfl, _, h⟩ := h
    exact rpa_cons.mpr ⟨w, r, rfl, k, h⟩
  | d :: ds, _, i + 1, _, w, h, k => by
    rw [rpa_cons] at h
    obtain ⟨v, r, rfl, h1, h⟩ := h
    exact rpa_cons.mpr ⟨v, r.set i w, rfl, h1, RpA.set i h k⟩
theorem RpA.mem : ∀ {ds : List D} {vs : List V}, RpA G oa H ds vs → ∀ v ∈ vs, ∃ d ∈ ds, Rp G oa H d v
  | [], _, h, v, hv => by rw [rpa_nil] at h; subst h; cases hv
  | d :: ds, _, h, v, hv => by
    rw [rpa_cons] at h
    obtain ⟨w, r, rfl, h1, h⟩ := h
    rcases List.mem_cons.mp hv with rfl | hv
    · exact ⟨d, List.mem_cons_self, h1⟩
    · obtain ⟨d', m, q⟩ := RpA.mem h v hv
      exact ⟨d', List.mem_cons_of_mem _ m, q⟩
/-- a list of ints, as it is met -/
theorem RpA.ints : ∀ {ns : List Int} {vs : List V}, RpA G oa H (ns.map D.int) vs → vs = ns.map V.int
  | [], _, h => by rw [List.map_nil, rpa_nil] at h; exact h
  | n :: ns, _, h => by
    rw [List.map_cons, rpa_cons] at h
    obtain ⟨v, r, rfl, h1, h⟩ := h
    rw [rp_int] at h1
    rw [h1, RpA.ints h]
    rfl
theorem RpA.of_ints : ∀ {ns : List Int}, RpA G oa H (ns.map D.int) (ns.map V.int)
  | [] => rpa_nil.mpr rfl
  | n :: ns => rpa_cons.mpr ⟨_, _, rfl, rp_int.mpr rfl, RpA.of_ints⟩
end

/-! ### the state -/
def ObOk (H : Hp) : List Addr → Ob → Prop
  | l, .town c r => ∃ tw rs, l = [tw, rs] ∧ tw ≠ rs ∧ H tw = some (.dK [(.inr "count", .int c), (.inr "rests", .ref rs)]) ∧ H rs = some (.dK (r.map fun p => (.inl p.1, .int p.2)))
/-- each object stands at its places; no place twice -/
structure ObsOk (oa : List (List Addr)) (τ : Tau) (H : Hp) : Prop where
  len : oa.length = τ.length
  ob : ∀ (n : Nat) l o, oa[n]? = some l → τ[n]? = some o → ObOk H l o
  apart : ∀ (n m : Nat) l l' a, n ≠ m → oa[n]? = some l → oa[m]? = some l' → a ∈ l → a ∉ l'
def VolO (oa : List (List Addr)) (a : Addr) : Prop := ∃ l ∈ oa, a ∈ l
def Vol (T : List (Addr × Str)) (oa : List (List Addr)) (a : Addr) : Prop := VolO oa a ∨ a ∈ T.map (·.1)
theorem ObOk.at {H : Hp} {l : List Addr} {o : Ob} (h : ObOk H l o) : ∀ a ∈ l, ∃ u, H a = some u := by
  cases o with
  | town c r =>
    obtain ⟨tw, rs, rfl, _, e1, e2⟩ := h
    intro a ha
    rcases List.mem_cons.mp ha with rfl | ha
    · exact ⟨_, e1⟩
    · rcases List.mem_cons.mp ha with rfl | ha
      · exact ⟨_, e2⟩
      · cases ha
theorem ObOk.stay {H H' : Hp} {l : List Addr} {o : Ob} (h : ObOk H l o) (k : ∀ a ∈ l, ∀ u, H a = some u → H' a = some u) : ObOk H' l o := by
  cases o with
  | town c r =>
    obtain ⟨tw, rs, rfl, n, e1, e2⟩ := h
    exact ⟨tw, rs, rfl, n, k _ (by simp) _ e1, k _ (by simp) _ e2⟩
theorem ObsOk.at {oa : List (List Addr)} {τ : Tau} {H : Hp} (h : ObsOk oa τ H) {a : Addr} (v : VolO oa a) : ∃ u, H a = some u := by
  obtain ⟨l, hl, ha⟩ := v
  obtain ⟨n, hn, e⟩ := List.mem_iff_getElem.mp hl
  have hn' : n < τ.length := by rw [← h.len]; exact hn
  exact (h.ob n l τ[n] (by rw [List.getElem?_eq_getElem hn, e]) (List.getElem?_eq_getElem hn')).at a ha
theorem ObsOk.stay {oa : List (List Addr)} {τ : Tau} {H H' : Hp} (h : ObsOk oa τ H) (k : ∀ a, VolO oa a → ∀ u, H a = some u → H' a = some u) : ObsOk oa τ H' :=
  ⟨h.len, fun n l o e1 e2 => (h.ob n l o e1 e2).stay fun a ha u q => k a ⟨l, List.mem_of_getElem? e1, ha⟩ u q, h.apart⟩

structure Good (G : GC) (Hf : Hp) (oa : List (List Addr)) (τ : Tau) (H : Hp) : Prop where
  ex : Ex Hf H
  tok : ObsOk oa τ H
  tab : LamX.Tabs G.T H
  vol : ∀ a, Vol G.T oa a → Hf a = none
  ntb : ∀ a ps, Hf a ≠ some (.tbl ps)
theorem Good.at {G : GC} {Hf H : Hp} {oa : List (List Addr)} {τ : Tau} (g : Good G Hf oa τ H) {a : Addr} (v : Vol G.T oa a) : ∃ u, H a = some u := by
  rcases v with v | v
  · exact g.tok.at v
  · obtain ⟨p, hp, rfl⟩ := List.mem_map.mp v
    obtain ⟨ps, h, _⟩ := g.tab p hp
    exact ⟨_, h⟩

/-- no table -/
def Nt (o : HO) : Prop := ∀ ps, o ≠ .tbl ps
/-- nothing stands there, but a table perhaps -/
def No (H : Hp) (a : Addr) : Prop := ∀ o, H a = some o → ¬ Nt o
theorem No.of {H : Hp} {a : Addr} (h : H a = none) : No H a := fun o e => by rw [h] at e; cases e
theorem Good.nt {G : GC} {Hf H : Hp} {oa : List (List Addr)} {τ : Tau} (g : Good G Hf oa τ H) {a : Addr} {o : HO} (h : Hf a = some o) : Nt o := fun ps e => g.ntb a ps (by rw [h, e])
/-- what a run of an expression (a call) leaves -/
structure Post (T : List (Addr × Str)) (Hf : Hp) (oa : List (List Addr)) (H Hf' : Hp) (oa' : List (List Addr)) (H' : Hp) : Prop where
  exf : Ex Hf Hf'
  keep : ∀ a o, H a = some o → ¬ Vol T oa a → (nt : Nt o := by intro ps h; cases h) → H' a = some o
  fz : ∀ a o, H a = some o → ¬ Vol T oa a → (nt : Nt o := by intro ps h; cases h) → Hf' a = Hf a
  oax : OaX oa oa'
  new : ∀ a, VolO oa' a → VolO oa a ∨ No H a
  per : ∀ a o, H a = some o → Nt o → ∃ o', H' a = some o' ∧ Nt o'
theorem Post.rfl' {T : List (Addr × Str)} {Hf H : Hp} {oa : List (List Addr)} : Post T Hf oa H Hf oa H := ⟨.rfl', fun _ _ h _ _ => h, fun _ _ _ _ _ => rfl, .rfl', fun _ h => .inl h, fun _ o h t => ⟨o, h, t⟩⟩
theorem Post.nv {T : List (Addr × Str)} {Hf H Hf1 H1 : Hp} {oa oa1 : List (List Addr)} (p : Post T Hf oa H Hf1 oa1 H1) {a : Addr} {o : HO} (h : H a = some o) (n : ¬ Vol T oa a) (t : Nt o := by intro ps h; cases h) : ¬ Vol T oa1 a := fun v => by
  rcases v with v | v
  · rcases p.new a v with z | z
    · exact n (.inl z)
    · exact z o h t
  · exact n (.inr v)
theorem Post.old {T : List (Addr × Str)} {Hf H Hf1 H1 : Hp} {oa oa1 : List (List Addr)} (p : Post T Hf oa H Hf1 oa1 H1) {a : Addr} (h : No H1 a) : No H a := fun o q t => by
  obtain ⟨o', e, t'⟩ := p.per a o q t
  exact h o' e t'
theorem Post.tr {T : List (Addr × Str)} {Hf H Hf1 H1 Hf2 H2 : Hp} {oa oa1 oa2 : List (List Addr)} (p : Post T Hf oa H Hf1 oa1 H1) (q : Post T Hf1 oa1 H1 Hf2 oa2 H2) : Post T Hf oa H Hf2 oa2 H2 := by
  refine ⟨p.exf.tr q.exf, fun a o h n t => q.keep a o (p.keep a o h n t) (p.nv h n t) t, fun a o h n t => (q.fz a o (p.keep a o h n t) (p.nv h n t) t).trans (p.fz a o h n t), p.oax.tr q.oax, fun a v => ?_, fun a o h t => ?_⟩
  · rcases q.new a v with z | z
    · exact p.new a z
    · exact .inr (p.old z)
  · obtain ⟨o', e, t'⟩ := p.per a o h t
    exact q.per a o' e t'
/-- nothing is changed, new objects alone -/
structure Pure (Hf H Hf' H' : Hp) : Prop where
  exf : Ex Hf Hf'
  exh : Ex H H'
  fz : ∀ a o, H a = some o → Hf' a = Hf a
  exx : Ex Hf' H'
  ntb : ∀ a ps, Hf' a = some (.tbl ps) → Hf a = some (.tbl ps)
theorem Pure.rfl' {Hf H : Hp} (e : Ex Hf H) : Pure Hf H Hf H := ⟨.rfl', .rfl', fun _ _ _ => rfl, e, fun _ _ h => h⟩
theorem Pure.tr {Hf H Hf1 H1 Hf2 H2 : Hp} (p : Pure Hf H Hf1 H1) (q : Pure Hf1 H1 Hf2 H2) : Pure Hf H Hf2 H2 :=
  ⟨p.exf.tr q.exf, p.exh.tr q.exh, fun a o h => (q.fz a o (p.exh a o h)).trans (p.fz a o h), q.exx, fun a ps h => p.ntb a ps (q.ntb a ps h)⟩
theorem Pure.new {Hf H : Hp} {p : Addr} {o : HO} (e : Ex Hf H) (n : H p = none) (hn : ∀ ps, o ≠ .tbl ps := by intro ps h; cases h) : Pure Hf H (upd Hf p o) (upd H p o) := by
  have nf : Hf p = none := by
    cases q : Hf p with
    | none => rfl
    | some u => rw [e p u q] at n; cases n
  refine ⟨fun a u h => ?_, fun a u h => ?_, fun a u h => ?_, fun a u h => ?_, fun a ps h => ?_⟩
  · rw [upd_ne (ne_of_none h nf)]; exact h
  · rw [upd_ne (ne_of_none h n)]; exact h
  · exact upd_ne (ne_of_none h n)
  · by_cases q : a = p
    · subst q; rw [upd_same] at h ⊢; exact h
    · rw [upd_ne q] at h ⊢; exact e a u h
  · by_cases q : a = p
    · subst q; rw [upd_same] at h; exact absurd (Option.some.inj h) (hn ps)
    · rw [upd_ne q] at h; exact h
/-- a new object that is not frozen -/
theorem Pure.newO {Hf H : Hp} {p : Addr} {o : HO} (e : Ex Hf H) (n : H p = none) : Pure Hf H Hf (upd H p o) :=
  ⟨.rfl', fun a u h => by rw [upd_ne (ne_of_none h n)]; exact h, fun _ _ _ => rfl, fun a u h => by rw [upd_ne (ne_of_none (e a u h) n)]; exact e a u h, fun a ps h => h⟩
theorem Pure.post {T : List (Addr × Str)} {Hf H Hf' H' : Hp} {oa : List (List Addr)} (p : Pure Hf H Hf' H') : Post T Hf oa H Hf' oa H' :=
  ⟨p.exf, fun a o h _ _ => p.exh a o h, fun a o h _ _ => p.fz a o h, .rfl', fun _ h => .inl h, fun a o h t => ⟨o, p.exh a o h, t⟩⟩
theorem Good.pure {G : GC} {Hf H Hf' H' : Hp} {oa : List (List Addr)} {τ : Tau} (g : Good G Hf oa τ H) (p : Pure Hf H Hf' H') : Good G Hf' oa τ H' :=
  ⟨p.exx, g.tok.stay fun a _ u h => p.exh a u h, g.tab.ext p.exh, fun a v => by
    obtain ⟨u, h⟩ := g.at v
    rw [p.fz a u h]
    exact g.vol a v, fun a ps h => g.ntb a ps (p.ntb a ps h)⟩

/-! ### the frame -/
/-- a list or dict that the frame alone holds -/
def Own (G : GC) (oa : List (List Addr)) (Hf H : Hp) : D → V → Prop
  | .lst ds, v => ∃ l vs, v = .ref l ∧ H l = some (.lst vs) ∧ Hf l = none ∧ ¬ Vol G.T oa l ∧ RpA G oa Hf ds vs
  | .dic ks ds, v => ∃ l es, v = .ref l ∧ H l = some (.dK es) ∧ Hf l = none ∧ ¬ Vol G.T oa l ∧ es.map (fun e => keyD e.1) = ks ∧ RpA G oa Hf ds (es.map (·.2))
  | .dnt ks ds, v => ∃ (l : Addr) (es : Array DictEntry) (ep : Nat) (xs : List Ent) (ws : List V), v = .ref l ∧ H l = some (RawE l es ep) ∧ Hf l = none ∧ ¬ Vol G.T oa l ∧ (l == sysModules) = false ∧ es.toList = xs.map (entN G.w) ∧ (xs.map (·.1)).Nodup ∧ ks.map nkD = xs.map (fun x => some x.1) ∧ (∀ x ∈ xs, x.1.depth ≤ 8) ∧ RpA G oa Hf ks (xs.map fun x => V.ref x.2.1) ∧ Vals ws (xs.map (·.2.2)) ∧ RpA G oa Hf ds ws
  | _, _ => False
theorem Own.post {G : GC} {oa oa' : List (List Addr)} {Hf H Hf' H' : Hp} {d : D} {v : V} (o : Own G oa Hf H d v) (p : Post G.T Hf oa H Hf' oa' H') : Own G oa' Hf' H' d v := by
  cases d with
  | lst ds =>
    obtain ⟨l, vs, e1, e2, e3, e4, e5⟩ := o
    exact ⟨l, vs, e1, p.keep l _ e2 e4, (p.fz l _ e2 e4).trans e3, p.nv e2 e4, e5.mono p.exf p.oax⟩
  | dic ks ds =>
    obtain ⟨l, vs, e1, e2, e3, e4, e5, e6⟩ := o
    exact ⟨l, vs, e1, p.keep l _ e2 e4, (p.fz l _ e2 e4).trans e3, p.nv e2 e4, e5, e6.mono p.exf p.oax⟩
  | non => exact o.elim
  | bl _ => exact o.elim
  | int _ => exact o.elim
  | str _ => exact o.elim
  | tup _ => exact o.elim
  | fn _ => exact o.elim
  | obj _ => exact o.elim
  | scr _ => exact o.elim
  | exc _ => exact o.elim
  | dnt ks ds =>
    obtain ⟨l, es, ep, xs, ws, e1, e2, e3, e4, e5, e6, e7, e8, e9, e10, e11, e12⟩ := o
    exact ⟨l, es, ep, xs, ws, e1, p.keep l _ e2 e4, (p.fz l _ e2 e4).trans e3, p.nv e2 e4, e5, e6, e7, e8, e9, e10.mono p.exf p.oax, e11, e12.mono p.exf p.oax⟩
/-- a value that is looked at, not kept -/
def Bw (G : GC) (oa : List (List Addr)) (Hf H : Hp) (d : D) (v : V) : Prop := Rp G oa Hf d v ∨ Own G oa Hf H d v
theorem Bw.post {G : GC} {oa oa' : List (List Addr)} {Hf H Hf' H' : Hp} {d : D} {v : V} (o : Bw G oa Hf H d v) (p : Post G.T Hf oa H Hf' oa' H') : Bw G oa' Hf' H' d v := by
  rcases o with o | o
  · exact .inl (o.mono p.exf p.oax)
  · exact .inr (o.post p)

structure Rel (G : GC) (Hf : Hp) (oa : List (List Addr)) (ρ : En) (τ : Tau) (σ : L2.St) (H : Hp) : Prop where
  good : Good G Hf oa τ H
  len : ρ.length = σ.length
  fz : ∀ (i : Nat) d, ρ[i]? = some (.fz d) → ∃ v, σ[i]? = some (some v) ∧ Rp G oa Hf d v
  ow : ∀ (i : Nat) d, ρ[i]? = some (.ow d) → ∃ v, σ[i]? = some (some v) ∧ Own G oa Hf H d v
  dis : ∀ (i j : Nat) d e, i ≠ j → ρ[i]? = some (.ow d) → ρ[j]? = some (.ow e) → σ[i]? ≠ σ[j]?
theorem Rel.post {G : GC} {Hf H Hf' H' : Hp} {oa oa' : List (List Addr)} {ρ : En} {τ τ' : Tau} {σ : L2.St} (r : Rel G Hf oa ρ τ σ H) (p : Post G.T Hf oa H Hf' oa' H') (g : Good G Hf' oa' τ' H') : Rel G Hf' oa' ρ τ' σ H' :=
  ⟨g, r.len, fun i d e => let ⟨v, h1, h2⟩ := r.fz i d e; ⟨v, h1, h2.mono p.exf p.oax⟩, fun i d e => let ⟨v, h1, h2⟩ := r.ow i d e; ⟨v, h1, h2.post p⟩, r.dis⟩
end KF
set_option maxHeartbeats 4000000
/-! KF2: readings of expressions and statements by functions. -/
namespace KF
open PySem PySem.Spec PyProof.Rows L2

abbrev Fe := En → M D
abbrev Ft := En → M Bool
abbrev Fa := En → M (List D)
inductive Out where
  | next (ρ : En) | brk (ρ : En) | cont (ρ : En) | ret (d : D)
abbrev Fs := Nat → En → M Out
theorem bnd_ok {α β : Type} {m : M α} {k : α → M β} {τ t : Tau} {a : α} (e : m τ = .ok a t) : M.bnd m k τ = k a t := by unfold M.bnd; rw [e]
theorem bnd_exc {α β : Type} {m : M α} {k : α → M β} {τ t : Tau} {c : XC} (e : m τ = .exc c t) : M.bnd m k τ = .exc c t := by unfold M.bnd; rw [e]
theorem bnd_stuck {α β : Type} {m : M α} {k : α → M β} {τ : Tau} (e : m τ = .stuck) : M.bnd m k τ = .stuck := by unfold M.bnd; rw [e]
section
variable {α β γ δ : Type}
/-- a run from a place: what it gives stands in R -/
def At (G : GC) (E : XK) (R : List (List Addr) → Hp → Hp → α → β → Prop) (m : M α) (Hf : Hp) (oa : List (List Addr)) (τ : Tau) (H : Hp) (Q : β → Hp → Prop) : Prop :=
  match m τ with
  | .ok d τ' => ∀ v H' Hf' oa', Post G.T Hf oa H Hf' oa' H' → Good G Hf' oa' τ' H' → R oa' Hf' H' d v → Q v H'
  | .exc c τ' => ∀ H' Hf' oa', Post G.T Hf oa H Hf' oa' H' → Good G Hf' oa' τ' H' → ∀ C, G.mg (nameX c) = some (.ref C) → E (.ref C) none H'
  | .stuck => False
def Ev (G : GC) (E : XK) (R : List (List Addr) → Hp → Hp → α → β → Prop) (f : En → M α) (σ : L2.St) (H : Hp) (Q : β → Hp → Prop) : Prop :=
  ∃ Hf oa ρ τ, Rel G Hf oa ρ τ σ H ∧ At G E R (f ρ) Hf oa τ H Q
variable {G : GC} {E : XK} {R : List (List Addr) → Hp → Hp → α → β → Prop} {R2 : List (List Addr) → Hp → Hp → γ → δ → Prop}
theorem At.shift {m : M α} {Hf Hf1 H H1 : Hp} {oa oa1 : List (List Addr)} {τ : Tau} {Q : β → Hp → Prop} (a : At G E R m Hf oa τ H Q) (p : Post G.T Hf oa H Hf1 oa1 H1) : At G E R m Hf1 oa1 τ H1 Q := by
  unfold At at a ⊢
  split at a
  · exact fun v H' Hf' oa' q g r => a v H' Hf' oa' (p.tr q) g r
  · exact fun H' Hf' oa' q g C h => a H' Hf' oa' (p.tr q) g C h
  · exact a
theorem At.bnd {m : M α} {k : α → M γ} {Hf H : Hp} {oa : List (List Addr)} {τ : Tau} {Q : δ → Hp → Prop} {C : β → Hp → Prop} (a : At G E R2 (M.bnd m k) Hf oa τ H Q)
    (h : ∀ d τ1 v H1 Hf1 oa1, m τ = .ok d τ1 → Post G.T Hf oa H Hf1 oa1 H1 → Good G Hf1 oa1 τ1 H1 → R oa1 Hf1 H1 d v → At G E R2 (k d) Hf1 oa1 τ1 H1 Q → C v H1) : At G E R m Hf oa τ H C := by
  have e0 : M.bnd m k τ = (match m τ with | .ok a t' => k a t' | .exc c t' => .exc c t' | .stuck => .stuck) := rfl
  unfold At
  cases e : m τ with
  | ok d τ1 =>
    simp only
    intro v H1 Hf1 oa1 p g r
    refine h d τ1 v H1 Hf1 oa1 e p g r (At.shift ?_ p)
    unfold At at a ⊢
    rw [e0, e] at a
    exact a
  | exc c τ1 =>
    unfold At at a
    rw [e0, e] at a
    exact a
  | stuck =>
    unfold At at a
    rw [e0, e] at a
    exact a
theorem At.ret {d : α} {v : β} {Hf H : Hp} {oa : List (List Addr)} {τ : Tau} {Q : β → Hp → Prop} (a : At G E R (M.ret d) Hf oa τ H Q) (g : Good G Hf oa τ H) (r : R oa Hf H d v) : Q v H := a v H Hf oa .rfl' g r
theorem At.pure {d : α} {v : β} {Hf H Hf' H' : Hp} {oa : List (List Addr)} {τ : Tau} {Q : β → Hp → Prop} (a : At G E R (M.ret d) Hf oa τ H Q) (g : Good G Hf oa τ H) (p : Pure Hf H Hf' H') (r : R oa Hf' H' d v) : Q v H' := a v H' Hf' oa p.post (g.pure p) r
theorem At.opt {o : Option α} {Hf H : Hp} {oa : List (List Addr)} {τ : Tau} {Q : β → Hp → Prop} (a : At G E R (M.opt o) Hf oa τ H Q) : ∃ d, o = some d ∧ At G E R (M.ret d) Hf oa τ H Q := by
  cases o with
  | none => exact False.elim a
  | some d => exact ⟨d, rfl, a⟩
theorem At.imp {m : M α} {Hf H : Hp} {oa : List (List Addr)} {τ : Tau} {Q Q' : β → Hp → Prop} (a : At G E R m Hf oa τ H Q) (h : ∀ v H', Q v H' → Q' v H') : At G E R m Hf oa τ H Q' := by
  unfold At at a ⊢
  split at a
  · exact fun v H' Hf' oa' q g r => h _ _ (a v H' Hf' oa' q g r)
  · exact a
  · exact a
theorem Ev.imp {f : En → M α} {σ : L2.St} {H : Hp} {Q Q' : β → Hp → Prop} (a : Ev G E R f σ H Q) (h : ∀ v H', Q v H' → Q' v H') : Ev G E R f σ H Q' :=
  let ⟨Hf, oa, ρ, τ, r, q⟩ := a; ⟨Hf, oa, ρ, τ, r, q.imp h⟩
/-- no exception may leave -/
def noX (m : M α) : M α := fun τ => match m τ with | .exc _ _ => .stuck | r => r
theorem At.noX {m : M α} {Hf H : Hp} {oa : List (List Addr)} {τ : Tau} {Q : β → Hp → Prop} {E' : XK} (a : At G E R (noX m) Hf oa τ H Q) : At G E' R m Hf oa τ H Q := by
  unfold At KF.noX at a
  unfold At
  cases e : m τ with
  | ok d τ1 => rw [e] at a; exact a
  | exc c τ1 => rw [e] at a; exact a.elim
  | stuck => rw [e] at a; exact a.elim
end

abbrev RE (G : GC) : List (List Addr) → Hp → Hp → D → V → Prop := fun oa Hf _ d v => Rp G oa Hf d v
abbrev RB (G : GC) : List (List Addr) → Hp → Hp → D → V → Prop := fun oa Hf H d v => Bw G oa Hf H d v
abbrev RT : List (List Addr) → Hp → Hp → Bool → Bool → Prop := fun _ _ _ b c => c = b
abbrev RA (G : GC) : List (List Addr) → Hp → Hp → List D → List V → Prop := fun oa Hf _ ds vs => RpA G oa Hf ds vs
/-- arguments that are looked at -/
def BwA (G : GC) (oa : List (List Addr)) (Hf H : Hp) : List D → List V → Prop
  | [], vs => vs = []
  | d :: ds, vs => ∃ v r, vs = v :: r ∧ Bw G oa Hf H d v ∧ BwA G oa Hf H ds r
theorem BwA.post {G : GC} {oa oa' : List (List Addr)} {Hf H Hf' H' : Hp} : ∀ {ds : List D} {vs : List V}, BwA G oa Hf H ds vs → Post G.T Hf oa H Hf' oa' H' → BwA G oa' Hf' H' ds vs
  | [], _, h, _ => h
  | _ :: _, _, ⟨v, r, e, h1, h2⟩, p => ⟨v, r, e, h1.post p, BwA.post h2 p⟩
abbrev RAB (G : GC) : List (List Addr) → Hp → Hp → List D → List V → Prop := fun oa Hf H ds vs => BwA G oa Hf H ds vs

theorem PE.mono {X : Cx} {e : Expr} {t t' : TE} (h : PE X e t) (k : ∀ σ H Q, t' σ H Q → t σ H Q) : PE X e t' := ⟨fun pins s σ H Q I q => h.run pins s σ H Q I (k σ H Q q)⟩
theorem PT.mono {X : Cx} {e : Expr} {t t' : TT} (h : PT X e t) (k : ∀ σ H Q, t' σ H Q → t σ H Q) : PT X e t' := ⟨fun pins s σ H Q I q => h.run pins s σ H Q I (k σ H Q q)⟩
theorem PW.mono {X : Cx} {e : Expr} {t t' : TT} (h : PW X e t) (k : ∀ σ H Q, t' σ H Q → t σ H Q) : PW X e t' := ⟨fun w pins s σ H Q I q => h.run w pins s σ H Q I (k σ H Q q)⟩
theorem PA.mono {X : Cx} {e : List Expr} {t t' : TA} (h : PA X e t) (k : ∀ σ H Q, t' σ H Q → t σ H Q) : PA X e t' := ⟨fun w pins s σ H Q I q => h.run w pins s σ H Q I (k σ H Q q)⟩
theorem PS.mono {X : Cx} {e : Stmt} {t t' : TS} (h : PS X e t) (k : ∀ D σ H, t' D σ H → t D σ H) : PS X e t' := ⟨fun pins s σ H D I q => h.run pins s σ H D I (k D σ H q)⟩
theorem PSs.mono {X : Cx} {e : List Stmt} {t t' : TS} (h : PSs X e t) (k : ∀ D σ H, t' D σ H → t D σ H) : PSs X e t' := ⟨fun pins s σ H D I q => h.run pins s σ H D I (k D σ H q)⟩

/-! ### values -/
section
variable {G : GC} {E : XK} {X : Cx}
theorem ev_var {i : Nat} {σ : L2.St} {H : Hp} {Q : VK} (h : Ev G E (RE G) (fun ρ => M.opt (match ρ[i]? with | some (.fz d) => some d | _ => none)) σ H Q) : tVar i σ H Q := by
  obtain ⟨Hf, oa, ρ, τ, rel, at_⟩ := h
  obtain ⟨d, e, at_⟩ := at_.opt
  split at e
  · rename_i d' e'
    cases e
    obtain ⟨v, e1, e2⟩ := rel.fz i d e'
    exact ⟨v, e1, at_.ret rel.good e2⟩
  · cases e
theorem ev_bor {i : Nat} {σ : L2.St} {H : Hp} {Q : VK} (h : Ev G E (RB G) (fun ρ => M.opt (match ρ[i]? with | some (.fz d) => some d | some (.ow d) => some d | _ => none)) σ H Q) : tVar i σ H Q := by
  obtain ⟨Hf, oa, ρ, τ, rel, at_⟩ := h
  obtain ⟨d, e, at_⟩ := at_.opt
  split at e
  · rename_i d' e'
    cases e
    obtain ⟨v, e1, e2⟩ := rel.fz i d e'
    exact ⟨v, e1, at_.ret rel.good (.inl e2)⟩
  · rename_i d' e'
    cases e
    obtain ⟨v, e1, e2⟩ := rel.ow i d e'
    exact ⟨v, e1, at_.ret rel.good (.inr e2)⟩
  · cases e
def fVar (i : Nat) : Fe := fun ρ => M.opt (match ρ[i]? with | some (.fz d) => some d | _ => none)
def fBor (i : Nat) : Fe := fun ρ => M.opt (match ρ[i]? with | some (.fz d) => some d | some (.ow d) => some d | _ => none)
def fC (d : D) : Fe := fun _ => M.ret d
/-- what is kept may be looked at -/
theorem ev_look {f : Fe} {σ : L2.St} {H : Hp} {Q : VK} (h : Ev G E (RB G) f σ H Q) : Ev G E (RE G) f σ H Q := by
  obtain ⟨Hf, oa, ρ, τ, rel, a⟩ := h
  refine ⟨Hf, oa, ρ, τ, rel, ?_⟩
  unfold At at a ⊢
  split at a
  · exact fun v H' Hf' oa' q g r => a v H' Hf' oa' q g (.inl r)
  · exact a
  · exact a
theorem PE.look {e : Expr} {f : Fe} (h : PE X e (Ev G E (RE G) f)) : PE X e (Ev G E (RB G) f) := PE.mono h fun _ _ _ q => ev_look q
theorem ev_c {d : D} {v : V} {σ : L2.St} {H : Hp} {Q : VK} (h : Ev G E (RE G) (fC d) σ H Q) (r : ∀ oa Hf, Rp G oa Hf d v) : tC v σ H Q := by
  obtain ⟨Hf, oa, ρ, τ, rel, at_⟩ := h
  exact at_.ret rel.good (r _ _)

/-! ### operators: a rule on values and a function on data -/
def VR2 (G : GC) (r : R2) (g : D → D → Option D) : Prop := ∀ {x y : V} {d1 d2 d : D} {Hf H : Hp} {oa : List (List Addr)} {Q : VK}, Ex Hf H → Bw G oa Hf H d1 x → Bw G oa Hf H d2 y → g d1 d2 = some d →
  (∀ v Hf' H', Pure Hf H Hf' H' → Rp G oa Hf' d v → Q v H') → r x y H Q
def VR1 (G : GC) (r : V → Hp → VK → Prop) (g : D → Option D) : Prop := ∀ {x : V} {d1 d : D} {Hf H : Hp} {oa : List (List Addr)} {Q : VK}, Ex Hf H → Bw G oa Hf H d1 x → g d1 = some d →
  (∀ v Hf' H', Pure Hf H Hf' H' → Rp G oa Hf' d v → Q v H') → r x H Q
structure VRA (G : GC) (r : List V → Hp → VK → Prop) (g : List D → Option D) : Prop where
  run : ∀ {xs : List V} {ds : List D} {d : D} {Hf H : Hp} {oa : List (List Addr)} {Q : VK}, Ex Hf H → BwA G oa Hf H ds xs → g ds = some d →
  (∀ v Hf' H', Pure Hf H Hf' H' → Rp G oa Hf' d v → Q v H') → r xs H Q
def f2 (g : D → D → Option D) (fa fb : Fe) : Fe := fun ρ => M.bnd (fa ρ) fun x => M.bnd (fb ρ) fun y => M.opt (g x y)
def f1 (g : D → Option D) (fa : Fe) : Fe := fun ρ => M.bnd (fa ρ) fun x => M.opt (g x)
def fN (g : List D → Option D) (fa : Fa) : Fe := fun ρ => M.bnd (fa ρ) fun x => M.opt (g x)
theorem ev_op {r : R2} {g : D → D → Option D} {fa fb : Fe} {σ : L2.St} {H : Hp} {Q : VK} (hv : VR2 G r g) (h : Ev G E (RE G) (f2 g fa fb) σ H Q) : tOp r (Ev G E (RB G) fa) (Ev G E (RB G) fb) σ H Q := by
  obtain ⟨Hf, oa, ρ, τ, rel, a⟩ := h
  refine ⟨Hf, oa, ρ, τ, rel, a.bnd fun d1 τ1 x H1 Hf1 oa1 _ p1 g1 r1 a1 => ⟨Hf1, oa1, ρ, τ1, rel.post p1 g1, a1.bnd fun d2 τ2 y H2 Hf2 oa2 _ p2 g2 r2 a2 => ?_⟩⟩
  obtain ⟨d, e, a3⟩ := a2.opt
  exact hv g2.ex (r1.post p2) r2 e fun v Hf' H' p r => a3.pure g2 p r
theorem ev_un {r : V → Hp → VK → Prop} {g : D → Option D} {fa : Fe} {σ : L2.St} {H : Hp} {Q : VK} (hv : VR1 G r g) (h : Ev G E (RE G) (f1 g fa) σ H Q) : tUn r (Ev G E (RB G) fa) σ H Q := by
  obtain ⟨Hf, oa, ρ, τ, rel, a⟩ := h
  refine ⟨Hf, oa, ρ, τ, rel, a.bnd fun d1 τ1 x H1 Hf1 oa1 _ p1 g1 r1 a1 => ?_⟩
  obtain ⟨d, e, a3⟩ := a1.opt
  exact hv g1.ex r1 e fun v Hf' H' p r => a3.pure g1 p r
theorem ev_callB {r : List V → Hp → VK → Prop} {g : List D → Option D} {fa : Fa} {σ : L2.St} {H : Hp} {Q : VK} (hv : VRA G r g) (h : Ev G E (RE G) (fN g fa) σ H Q) : tCB r (Ev G E (RAB G) fa) σ H Q := by
  obtain ⟨Hf, oa, ρ, τ, rel, a⟩ := h
  refine ⟨Hf, oa, ρ, τ, rel, a.bnd fun d1 τ1 x H1 Hf1 oa1 _ p1 g1 r1 a1 => ?_⟩
  obtain ⟨d, e, a3⟩ := a1.opt
  exact hv.run g1.ex r1 e fun v Hf' H' p r => a3.pure g1 p r

/-! ### argument lists -/
def fNil : Fa := fun _ => M.ret []
def fCons (fa : Fe) (fr : Fa) : Fa := fun ρ => M.bnd (fa ρ) fun x => M.bnd (fr ρ) fun xs => M.ret (x :: xs)
theorem ev_nil {σ : L2.St} {H : Hp} {Q : List V → Hp → Prop} (h : Ev G E (RA G) fNil σ H Q) : tNil σ H Q := by
  obtain ⟨Hf, oa, ρ, τ, rel, a⟩ := h
  exact a.ret rel.good (rpa_nil.mpr rfl)
theorem ev_nilB {σ : L2.St} {H : Hp} {Q : List V → Hp → Prop} (h : Ev G E (RAB G) fNil σ H Q) : tNil σ H Q := by
  obtain ⟨Hf, oa, ρ, τ, rel, a⟩ := h
  exact a.ret rel.good (show ([] : List V) = [] from rfl)
theorem ev_cons {fa : Fe} {fr : Fa} {σ : L2.St} {H : Hp} {Q : List V → Hp → Prop} (h : Ev G E (RA G) (fCons fa fr) σ H Q) : tCons (Ev G E (RE G) fa) (Ev G E (RA G) fr) σ H Q := by
  obtain ⟨Hf, oa, ρ, τ, rel, a⟩ := h
  refine ⟨Hf, oa, ρ, τ, rel, a.bnd fun d1 τ1 x H1 Hf1 oa1 _ p1 g1 r1 a1 => ⟨Hf1, oa1, ρ, τ1, rel.post p1 g1, a1.bnd fun d2 τ2 y H2 Hf2 oa2 _ p2 g2 r2 a2 => ?_⟩⟩
  exact a2.ret g2 (rpa_cons.mpr ⟨x, y, rfl, r1.mono p2.exf p2.oax, r2⟩)
theorem ev_consB {fa : Fe} {fr : Fa} {σ : L2.St} {H : Hp} {Q : List V → Hp → Prop} (h : Ev G E (RAB G) (fCons fa fr) σ H Q) : tCons (Ev G E (RB G) fa) (Ev G E (RAB G) fr) σ H Q := by
  obtain ⟨Hf, oa, ρ, τ, rel, a⟩ := h
  refine ⟨Hf, oa, ρ, τ, rel, a.bnd fun d1 τ1 x H1 Hf1 oa1 _ p1 g1 r1 a1 => ⟨Hf1, oa1, ρ, τ1, rel.post p1 g1, a1.bnd fun d2 τ2 y H2 Hf2 oa2 _ p2 g2 r2 a2 => ?_⟩⟩
  exact a2.ret g2 ⟨x, y, rfl, r1.post p2, r2⟩

/-! ### tests -/
def toB : D → M Bool
  | .bl b => M.ret b
  | _ => M.fail
def fB (fe : Fe) : Ft := fun ρ => M.bnd (fe ρ) toB
theorem ev_B {fe : Fe} {σ : L2.St} {H : Hp} {Q : Bool → Hp → Prop} (h : Ev G E RT (fB fe) σ H Q) : Ev G E (RE G) fe σ H (fun x H' => ∃ k, x = .bl k ∧ Q k H') := by
  obtain ⟨Hf, oa, ρ, τ, rel, a⟩ := h
  refine ⟨Hf, oa, ρ, τ, rel, a.bnd fun d1 τ1 x H1 Hf1 oa1 _ p1 g1 r1 a1 => ?_⟩
  cases d1 with
  | bl b =>
    have r1 : x = .bl b := rp_bl.mp r1
    exact ⟨b, r1, a1.ret g1 rfl⟩
  | _ => exact False.elim a1
def fNot (f : Ft) : Ft := fun ρ => M.bnd (f ρ) fun b => M.ret (!b)
def fAnd (f g : Ft) : Ft := fun ρ => M.bnd (f ρ) fun b => if b = true then g ρ else M.ret false
def fOr (f g : Ft) : Ft := fun ρ => M.bnd (f ρ) fun b => if b = true then M.ret true else g ρ
theorem ev_not {f : Ft} {σ : L2.St} {H : Hp} {Q : Bool → Hp → Prop} (h : Ev G E RT (fNot f) σ H Q) : tNot (Ev G E RT f) σ H Q := by
  obtain ⟨Hf, oa, ρ, τ, rel, a⟩ := h
  refine ⟨Hf, oa, ρ, τ, rel, a.bnd fun d1 τ1 x H1 Hf1 oa1 _ p1 g1 r1 a1 => ?_⟩
  have r1 : x = d1 := r1
  subst r1
  exact a1.ret g1 rfl
theorem ev_and {f g : Ft} {σ : L2.St} {H : Hp} {Q : Bool → Hp → Prop} (h : Ev G E RT (fAnd f g) σ H Q) : tAnd (Ev G E RT f) (Ev G E RT g) σ H Q := by
  obtain ⟨Hf, oa, ρ, τ, rel, a⟩ := h
  refine ⟨Hf, oa, ρ, τ, rel, a.bnd fun d1 τ1 x H1 Hf1 oa1 _ p1 g1 r1 a1 => ?_⟩
  have r1 : x = d1 := r1
  subst r1
  cases x with
  | true => exact ⟨Hf1, oa1, ρ, τ1, rel.post p1 g1, a1⟩
  | false => exact At.ret (R := RT) a1 g1 rfl
theorem ev_or {f g : Ft} {σ : L2.St} {H : Hp} {Q : Bool → Hp → Prop} (h : Ev G E RT (fOr f g) σ H Q) : tOr (Ev G E RT f) (Ev G E RT g) σ H Q := by
  obtain ⟨Hf, oa, ρ, τ, rel, a⟩ := h
  refine ⟨Hf, oa, ρ, τ, rel, a.bnd fun d1 τ1 x H1 Hf1 oa1 _ p1 g1 r1 a1 => ?_⟩
  have r1 : x = d1 := r1
  subst r1
  cases x with
  | false => exact ⟨Hf1, oa1, ρ, τ1, rel.post p1 g1, a1⟩
  | true => exact At.ret (R := RT) a1 g1 rfl
/-- bools by and, or, not, as values -/
def fAndV (f g : Fe) : Fe := fun ρ => M.bnd (M.bnd (f ρ) toB) fun b => if b = true then g ρ else M.ret (.bl false)
def fOrV (f g : Fe) : Fe := fun ρ => M.bnd (M.bnd (f ρ) toB) fun b => if b = true then M.ret (.bl true) else g ρ
def fNotV (f : Fe) : Fe := fun ρ => M.bnd (M.bnd (f ρ) toB) fun b => M.ret (.bl (!b))
theorem bnd_assoc {α β γ : Type} (m : M α) (f : α → M β) (g : β → M γ) : M.bnd (M.bnd m f) g = M.bnd m fun a => M.bnd (f a) g := by
  funext t
  show (match (match m t with | .ok a t' => f a t' | .exc c t' => .exc c t' | .stuck => .stuck) with | .ok a t' => g a t' | .exc c t' => .exc c t' | .stuck => .stuck) = (match m t with | .ok a t' => M.bnd (f a) g t' | .exc c t' => .exc c t' | .stuck => .stuck)
  cases m t <;> rfl
theorem ev_andV {f g : Fe} {σ : L2.St} {H : Hp} {Q : VK} (h : Ev G E (RE G) (fAndV f g) σ H Q) : tAndV (Ev G E (RE G) f) (Ev G E (RE G) g) σ H Q := by
  obtain ⟨Hf, oa, ρ, τ, rel, a⟩ := h
  unfold fAndV at a
  rw [bnd_assoc] at a
  refine ⟨Hf, oa, ρ, τ, rel, a.bnd fun d1 τ1 x H1 Hf1 oa1 _ p1 g1 r1 a1 => ?_⟩
  cases d1 with
  | bl b =>
    refine ⟨b, rp_bl.mp r1, ?_⟩
    cases b with
    | true => exact ⟨Hf1, oa1, ρ, τ1, rel.post p1 g1, a1⟩
    | false => exact At.ret (R := RE G) a1 g1 (rp_bl.mpr rfl)
  | _ => exact False.elim a1
theorem ev_orV {f g : Fe} {σ : L2.St} {H : Hp} {Q : VK} (h : Ev G E (RE G) (fOrV f g) σ H Q) : tOrV (Ev G E (RE G) f) (Ev G E (RE G) g) σ H Q := by
  obtain ⟨Hf, oa, ρ, τ, rel, a⟩ := h
  unfold fOrV at a
  rw [bnd_assoc] at a
  refine ⟨Hf, oa, ρ, τ, rel, a.bnd fun d1 τ1 x H1 Hf1 oa1 _ p1 g1 r1 a1 => ?_⟩
  cases d1 with
  | bl b =>
    refine ⟨b, rp_bl.mp r1, ?_⟩
    cases b with
    | false => exact ⟨Hf1, oa1, ρ, τ1, rel.post p1 g1, a1⟩
    | true => exact At.ret (R := RE G) a1 g1 (rp_bl.mpr rfl)
  | _ => exact False.elim a1
theorem ev_notV {f : Fe} {σ : L2.St} {H : Hp} {Q : VK} (h : Ev G E (RE G) (fNotV f) σ H Q) : tNotV (Ev G E (RE G) f) σ H Q := by
  obtain ⟨Hf, oa, ρ, τ, rel, a⟩ := h
  unfold fNotV at a
  rw [bnd_assoc] at a
  refine ⟨Hf, oa, ρ, τ, rel, a.bnd fun d1 τ1 x H1 Hf1 oa1 _ p1 g1 r1 a1 => ?_⟩
  cases d1 with
  | bl b => exact ⟨b, rp_bl.mp r1, At.ret (R := RE G) a1 g1 (rp_bl.mpr rfl)⟩
  | _ => exact False.elim a1
/-- a if t else b -/
def fIfE (t : Ft) (f g : Fe) : Fe := fun ρ => M.bnd (t ρ) fun b => if b = true then f ρ else g ρ
theorem ev_if {t : Ft} {f g : Fe} {R : List (List Addr) → Hp → Hp → D → V → Prop} {σ : L2.St} {H : Hp} {Q : VK} (h : Ev G E R (fIfE t f g) σ H Q) : tIf (Ev G E RT t) (Ev G E R f) (Ev G E R g) σ H Q := by
  obtain ⟨Hf, oa, ρ, τ, rel, a⟩ := h
  refine ⟨Hf, oa, ρ, τ, rel, a.bnd fun d1 τ1 x H1 Hf1 oa1 _ p1 g1 r1 a1 => ?_⟩
  have r1 : x = d1 := r1
  subst r1
  cases x with
  | false => exact ⟨Hf1, oa1, ρ, τ1, rel.post p1 g1, a1⟩
  | true => exact ⟨Hf1, oa1, ρ, τ1, rel.post p1 g1, a1⟩
/-- a < b < c -/
def fChain (g g' : D → D → Option D) (fa fb fc : Fe) : Fe := fun ρ => M.bnd (fa ρ) fun x => M.bnd (fb ρ) fun y => M.bnd (M.opt (g x y)) fun z => M.bnd (toB z) fun k => if k = true then M.bnd (fc ρ) fun w => M.opt (g' y w) else M.ret (.bl false)
theorem ev_chain {r r' : R2} {g g' : D → D → Option D} {fa fb fc : Fe} {σ : L2.St} {H : Hp} {Q : VK} (hv : VR2 G r g) (hv' : VR2 G r' g') (h : Ev G E (RE G) (fChain g g' fa fb fc) σ H Q) :
    tChain r r' (Ev G E (RB G) fa) (Ev G E (RB G) fb) (Ev G E (RB G) fc) σ H Q := by
  obtain ⟨Hf, oa, ρ, τ, rel, a⟩ := h
  refine ⟨Hf, oa, ρ, τ, rel, a.bnd fun d1 τ1 x H1 Hf1 oa1 _ p1 g1 r1 a1 => ⟨Hf1, oa1, ρ, τ1, rel.post p1 g1, a1.bnd fun d2 τ2 y H2 Hf2 oa2 _ p2 g2 r2 a2 => ?_⟩⟩
  cases e : g d1 d2 with
  | none => rw [e] at a2; exact False.elim a2
  | some z =>
    rw [e] at a2
    refine hv g2.ex (r1.post p2) r2 e fun v Hf3 H3 p3 r3 => ?_
    cases z with
    | bl b =>
      have a3 : At G E (RE G) (if b = true then M.bnd (fc ρ) fun w => M.opt (g' d2 w) else M.ret (.bl false)) Hf2 oa2 τ2 H2 Q := a2
      have a3 := a3.shift p3.post
      have g3 := g2.pure p3
      refine ⟨b, rp_bl.mp r3, ?_⟩
      cases b with
      | false => exact At.ret (R := RE G) a3 g3 (rp_bl.mpr rfl)
      | true =>
        refine ⟨Hf3, oa2, ρ, τ2, ((rel.post p1 g1).post p2 g2).post p3.post g3, At.bnd a3 fun d4 τ4 w H4 Hf4 oa4 _ p4 g4 r4 a4 => ?_⟩
        obtain ⟨d, e4, a5⟩ := a4.opt
        exact hv' g4.ex ((r2.post p3.post).post p4) r4 e4 fun v' Hf' H' p r => a5.pure g4 p r
    | _ => exact False.elim a2

/-! ### iteration -/
/-- J goes through ds, while what is frozen stands -/
def Yl (G : GC) (oa : List (List Addr)) (Hf : Hp) (J : It) (ds : List D) : Prop := ∀ (i : Nat) (Hf1 H1 : Hp) (oa1 : List (List Addr)), Ex Hf Hf1 → Ex Hf1 H1 → OaX oa oa1 →
  (i < ds.length → J.go i H1 ∧ ∀ x H2, J.yld i H1 x H2 → ∃ Hf2 d, Pure Hf1 H1 Hf2 H2 ∧ ds[i]? = some d ∧ Rp G oa1 Hf2 d x) ∧ (i = ds.length → J.stop i H1)
abbrev RI (G : GC) : List (List Addr) → Hp → Hp → List D → It → Prop := fun oa Hf _ ds J => Yl G oa Hf J ds
end

/-! ### statements -/
structure Bs where
  Hf : Hp
  oa : List (List Addr)
  H : Hp
structure RelS (G : GC) (B : Bs) (Hf : Hp) (oa : List (List Addr)) (ρ : En) (τ : Tau) (σ : L2.St) (H : Hp) : Prop where
  rel : Rel G Hf oa ρ τ σ H
  base : Post G.T B.Hf B.oa B.H Hf oa H
  fresh : ∀ (i : Nat) d l, ρ[i]? = some (.ow d) → σ[i]? = some (some (.ref l)) → No B.H l
def AtS (G : GC) (B : Bs) (E : XK) (m : M Out) (Hf : Hp) (oa : List (List Addr)) (τ : Tau) (D : Ends) : Prop :=
  match m τ with
  | .ok (.next ρ') τ' => ∀ σ' H' Hf' oa', Ex Hf Hf' → OaX oa oa' → RelS G B Hf' oa' ρ' τ' σ' H' → D.nx σ' H'
  | .ok (.brk ρ') τ' => ∀ σ' H' Hf' oa', Ex Hf Hf' → OaX oa oa' → RelS G B Hf' oa' ρ' τ' σ' H' → D.bk σ' H'
  | .ok (.cont ρ') τ' => ∀ σ' H' Hf' oa', Ex Hf Hf' → OaX oa oa' → RelS G B Hf' oa' ρ' τ' σ' H' → D.ct σ' H'
  | .ok (.ret d) τ' => ∀ v H' Hf' oa', Post G.T B.Hf B.oa B.H Hf' oa' H' → Good G Hf' oa' τ' H' → Rp G oa' Hf' d v → D.rt v H'
  | .exc c τ' => ∀ H' Hf' oa', Post G.T B.Hf B.oa B.H Hf' oa' H' → Good G Hf' oa' τ' H' → ∀ C, G.mg (nameX c) = some (.ref C) → E (.ref C) none H'
  | .stuck => False
def tS (G : GC) (B : Bs) (E : XK) (f : En → M Out) : TS := fun D σ H => ∃ Hf oa ρ τ, RelS G B Hf oa ρ τ σ H ∧ AtS G B E (f ρ) Hf oa τ D
section
variable {G : GC} {B : Bs} {E : XK} {X : Cx}
theorem RelS.post {Hf H Hf' H' : Hp} {oa oa' : List (List Addr)} {ρ : En} {τ τ' : Tau} {σ : L2.St} (r : RelS G B Hf oa ρ τ σ H) (p : Post G.T Hf oa H Hf' oa' H') (g : Good G Hf' oa' τ' H') : RelS G B Hf' oa' ρ τ' σ H' :=
  ⟨r.rel.post p g, r.base.tr p, r.fresh⟩
theorem AtS.shift {m : M Out} {Hf Hf1 : Hp} {oa oa1 : List (List Addr)} {τ : Tau} {D : Ends} (a : AtS G B E m Hf oa τ D) (e : Ex Hf Hf1) (o : OaX oa oa1) : AtS G B E m Hf1 oa1 τ D := by
  unfold AtS at a ⊢
  split at a
  · exact fun σ' H' Hf' oa' e' o' r => a σ' H' Hf' oa' (e.tr e') (o.tr o') r
  · exact fun σ' H' Hf' oa' e' o' r => a σ' H' Hf' oa' (e.tr e') (o.tr o') r
  · exact fun σ' H' Hf' oa' e' o' r => a σ' H' Hf' oa' (e.tr e') (o.tr o') r
  · exact a
  · exact a
  · exact a
/-- an expression, then the rest -/
theorem AtS.bnd {α β : Type} {R : List (List Addr) → Hp → Hp → α → β → Prop} {m : M α} {k : α → M Out} {Hf H : Hp} {oa : List (List Addr)} {ρ : En} {σ : L2.St} {τ : Tau} {D : Ends} {C : β → Hp → Prop} (a : AtS G B E (M.bnd m k) Hf oa τ D) (r : RelS G B Hf oa ρ τ σ H)
    (h : ∀ d τ1 v H1 Hf1 oa1, m τ = .ok d τ1 → Post G.T Hf oa H Hf1 oa1 H1 → Good G Hf1 oa1 τ1 H1 → R oa1 Hf1 H1 d v → RelS G B Hf1 oa1 ρ τ1 σ H1 → AtS G B E (k d) Hf1 oa1 τ1 D → C v H1) : At G E R m Hf oa τ H C := by
  have e0 : M.bnd m k τ = (match m τ with | .ok a t' => k a t' | .exc c t' => .exc c t' | .stuck => .stuck) := rfl
  unfold At
  cases e : m τ with
  | ok d τ1 =>
    intro v H1 Hf1 oa1 p g q
    refine h d τ1 v H1 Hf1 oa1 e p g q (r.post p g) (AtS.shift (Hf := Hf) (oa := oa) ?_ p.exf p.oax)
    unfold AtS at a ⊢
    rw [e0, e] at a
    exact a
  | exc c τ1 =>
    unfold AtS at a
    rw [e0, e] at a
    exact fun H' Hf' oa' p g C hC => a H' Hf' oa' (r.base.tr p) g C hC
  | stuck =>
    unfold AtS at a
    rw [e0, e] at a
    exact a
def seqK (g : En → M Out) : Out → M Out
  | .next ρ => g ρ
  | .brk ρ => M.ret (.brk ρ)
  | .cont ρ => M.ret (.cont ρ)
  | .ret d => M.ret (.ret d)
def fSeq (f g : En → M Out) : En → M Out := fun ρ => M.bnd (f ρ) (seqK g)
theorem ts_seq {f g : En → M Out} {D : Ends} {σ : L2.St} {H : Hp} (h : tS G B E (fSeq f g) D σ H) : tSeq (tS G B E f) (tS G B E g) D σ H := by
  obtain ⟨Hf, oa, ρ, τ, r, a⟩ := h
  refine ⟨Hf, oa, ρ, τ, r, ?_⟩
  unfold AtS fSeq at a
  unfold AtS
  cases e : f ρ τ with
  | ok o τ1 =>
    rw [bnd_ok e] at a
    cases o with
    | next ρ1 => exact fun σ' H' Hf' oa' e1 o1 r1 => ⟨Hf', oa', ρ1, τ1, r1, AtS.shift (Hf := Hf) (oa := oa) (by unfold AtS; exact a) e1 o1⟩
    | brk ρ1 => exact a
    | cont ρ1 => exact a
    | ret d => exact a
  | exc c τ1 => rw [bnd_exc e] at a; exact a
  | stuck => rw [bnd_stuck e] at a; exact a
def fNext : En → M Out := fun ρ => M.ret (.next ρ)
theorem ts_next {D : Ends} {σ : L2.St} {H : Hp} (h : tS G B E fNext D σ H) : tNext D σ H := by
  obtain ⟨Hf, oa, ρ, τ, r, a⟩ := h
  exact a σ H Hf oa .rfl' .rfl' r
def fBrk : En → M Out := fun ρ => M.ret (.brk ρ)
def fCont : En → M Out := fun ρ => M.ret (.cont ρ)
theorem ts_cont {D : Ends} {σ : L2.St} {H : Hp} (h : tS G B E fCont D σ H) : tCont D σ H := by
  obtain ⟨Hf, oa, ρ, τ, r, a⟩ := h
  exact a σ H Hf oa .rfl' .rfl' r
def fIf (t : Ft) (f g : En → M Out) : En → M Out := fun ρ => M.bnd (t ρ) fun b => if b = true then f ρ else g ρ
theorem ts_if {t : Ft} {f g : En → M Out} {D : Ends} {σ : L2.St} {H : Hp} (h : tS G B E (fIf t f g) D σ H) : tIfS (Ev G E RT t) (tS G B E f) (tS G B E g) D σ H := by
  obtain ⟨Hf, oa, ρ, τ, r, a⟩ := h
  refine ⟨Hf, oa, ρ, τ, r.rel, a.bnd r fun b τ1 v H1 Hf1 oa1 _ p1 g1 q1 r1 a1 => ?_⟩
  have q1 : v = b := q1
  subst q1
  cases v with
  | true => exact ⟨Hf1, oa1, ρ, τ1, r1, a1⟩
  | false => exact ⟨Hf1, oa1, ρ, τ1, r1, a1⟩
def fRet (f : Fe) : En → M Out := fun ρ => M.bnd (f ρ) fun d => M.ret (.ret d)
theorem ts_ret {f : Fe} {D : Ends} {σ : L2.St} {H : Hp} (h : tS G B E (fRet f) D σ H) : tRet (Ev G E (RE G) f) D σ H := by
  obtain ⟨Hf, oa, ρ, τ, r, a⟩ := h
  exact ⟨Hf, oa, ρ, τ, r.rel, a.bnd r fun d τ1 v H1 Hf1 oa1 _ p1 g1 q1 r1 a1 => a1 v H1 Hf1 oa1 r1.base g1 q1⟩
theorem ts_retN {D : Ends} {σ : L2.St} {H : Hp} (h : tS G B E (fRet (fC .non)) D σ H) : tRetN D σ H := by
  obtain ⟨Hf, oa, ρ, τ, r, a⟩ := h
  exact a .non H Hf oa r.base r.rel.good (rp_non.mpr rfl)
/-- return of what the frame held alone -/
def notDic : D → Bool
  | .dic _ _ => false
  | _ => true
def frzOf (ρ : En) (j : Nat) : Option D := match ρ[j]? with
  | some (.ow d) => if notDic d = true then some d else none
  | _ => none
theorem frzOf_some {ρ : En} {j : Nat} {d : D} (h : frzOf ρ j = some d) : ρ[j]? = some (.ow d) ∧ notDic d = true := by
  unfold frzOf at h
  split at h
  · rename_i d' e
    split at h
    · rename_i n; cases h; exact ⟨e, n⟩
    · cases h
  · cases h
def fRetO (i : Nat) : En → M Out := fun ρ => M.bnd (M.opt (frzOf ρ i)) fun d => M.ret (.ret d)
def fDrop (f : Fe) : En → M Out := fun ρ => M.bnd (f ρ) fun _ => M.ret (.next ρ)
theorem ts_drop {f : Fe} {D : Ends} {σ : L2.St} {H : Hp} (h : tS G B E (fDrop f) D σ H) : tDrop (Ev G E (RE G) f) D σ H := by
  obtain ⟨Hf, oa, ρ, τ, r, a⟩ := h
  exact ⟨Hf, oa, ρ, τ, r.rel, a.bnd r fun d τ1 v H1 Hf1 oa1 _ p1 g1 q1 r1 a1 => a1 σ H1 Hf1 oa1 .rfl' .rfl' r1⟩
end
end KF
set_option maxHeartbeats 4000000
/-! KF3: slots, targets, loops, comprehensions, displays. -/
namespace KF
open PySem PySem.Spec PyProof.Rows L2

abbrev SZ : Nat := 1000000
theorem sz_le {n : Nat} (h : n ≤ SZ) : n ≤ sizeLine := Nat.le_trans h (by rw [sizeLine_eq]; decide)
theorem sz_lt {n : Nat} (h : n ≤ SZ) : n < sizeLine := Nat.lt_of_le_of_lt h (by rw [sizeLine_eq]; decide)

/-! ### slots -/
section
variable {G : GC} {B : Bs} {E : XK} {X : Cx} {Hf H : Hp} {oa : List (List Addr)} {ρ : En} {τ : Tau} {σ : L2.St}
theorem get_set {α : Type} {l : List α} {i j : Nat} {x y : α} (h : (l.set i x)[j]? = some y) : (j = i ∧ y = x ∧ i < l.length) ∨ (j ≠ i ∧ l[j]? = some y) := by
  by_cases e : j = i
  · subst e
    by_cases hl : j < l.length
    · rw [List.getElem?_set_self hl] at h
      exact .inl ⟨rfl, (Option.some.inj h).symm, hl⟩
    · rw [List.getElem?_eq_none (by simpa using hl)] at h; cases h
  · rw [List.getElem?_set_ne (Ne.symm e)] at h
    exact .inr ⟨e, h⟩
theorem Rel.set {d : D} {v : V} {i : Nat} (r : Rel G Hf oa ρ τ σ H) (h : Rp G oa Hf d v) : Rel G Hf oa (ρ.set i (.fz d)) τ (σ.set i (some v)) H := by
  refine ⟨r.good, by simp [r.len], fun j e q => ?_, fun j e q => ?_, fun j k d1 d2 hjk q1 q2 => ?_⟩
  · rcases get_set q with ⟨rfl, e', hl⟩ | ⟨n, q⟩
    · cases e'
      exact ⟨v, by rw [List.getElem?_set_self (by rw [← r.len]; exact hl)], h⟩
    · obtain ⟨w, h1, h2⟩ := r.fz j e q
      exact ⟨w, by rw [List.getElem?_set_ne (Ne.symm n)]; exact h1, h2⟩
  · rcases get_set q with ⟨rfl, e', hl⟩ | ⟨n, q⟩
    · cases e'
    · obtain ⟨w, h1, h2⟩ := r.ow j e q
      exact ⟨w, by rw [List.getElem?_set_ne (Ne.symm n)]; exact h1, h2⟩
  · rcases get_set q1 with ⟨rfl, e', hl⟩ | ⟨n, q1⟩
    · cases e'
    · rcases get_set q2 with ⟨rfl, e', hl⟩ | ⟨n2, q2⟩
      · cases e'
      · rw [List.getElem?_set_ne (Ne.symm n), List.getElem?_set_ne (Ne.symm n2)]
        exact r.dis j k d1 d2 hjk q1 q2
theorem Rel.setO {d : D} {l : Addr} {i : Nat} (r : Rel G Hf oa ρ τ σ H) (h : Own G oa Hf H d (.ref l)) (n : ∀ (j : Nat) e, j ≠ i → ρ[j]? = some (.ow e) → σ[j]? ≠ some (some (.ref l))) : Rel G Hf oa (ρ.set i (.ow d)) τ (σ.set i (some (.ref l))) H := by
  refine ⟨r.good, by simp [r.len], fun j e q => ?_, fun j e q => ?_, fun j k d1 d2 hjk q1 q2 => ?_⟩
  · rcases get_set q with ⟨rfl, e', hl⟩ | ⟨n, q⟩
    · cases e'
    · obtain ⟨w, h1, h2⟩ := r.fz j e q
      exact ⟨w, by rw [List.getElem?_set_ne (Ne.symm n)]; exact h1, h2⟩
  · rcases get_set q with ⟨rfl, e', hl⟩ | ⟨n, q⟩
    · cases e'
      exact ⟨_, by rw [List.getElem?_set_self (by rw [← r.len]; exact hl)], h⟩
    · obtain ⟨w, h1, h2⟩ := r.ow j e q
      exact ⟨w, by rw [List.getElem?_set_ne (Ne.symm n)]; exact h1, h2⟩
  · rcases get_set q1 with ⟨rfl, e', hl⟩ | ⟨n1, q1'⟩
    · rcases get_set q2 with ⟨rfl, e'', hl2⟩ | ⟨n2, q2⟩
      · exact absurd rfl hjk
      · rw [List.getElem?_set_self (by rw [← r.len]; exact hl), List.getElem?_set_ne (Ne.symm n2)]
        exact fun z => n k d2 n2 q2 z.symm
    · rcases get_set q2 with ⟨rfl, e'', hl2⟩ | ⟨n2, q2'⟩
      · rw [List.getElem?_set_self (by rw [← r.len]; exact hl2), List.getElem?_set_ne (Ne.symm n1)]
        exact n j d1 n1 q1'
      · rw [List.getElem?_set_ne (Ne.symm n1), List.getElem?_set_ne (Ne.symm n2)]
        exact r.dis j k d1 d2 hjk q1' q2'
/-- a slot is forgotten -/
theorem Rel.drop {i : Nat} (r : Rel G Hf oa ρ τ σ H) : Rel G Hf oa (ρ.set i .un) τ σ H := by
  refine ⟨r.good, by simp [r.len], fun j e q => ?_, fun j e q => ?_, fun j k d1 d2 hjk q1 q2 => ?_⟩
  · rcases get_set q with ⟨rfl, e', hl⟩ | ⟨n, q⟩
    · cases e'
    · exact r.fz j e q
  · rcases get_set q with ⟨rfl, e', hl⟩ | ⟨n, q⟩
    · cases e'
    · exact r.ow j e q
  · rcases get_set q1 with ⟨rfl, e', hl⟩ | ⟨n, q1⟩
    · cases e'
    · rcases get_set q2 with ⟨rfl, e', hl⟩ | ⟨n2, q2⟩
      · cases e'
      · exact r.dis j k d1 d2 hjk q1 q2
theorem Rel.wipe1 {i : Nat} (r : Rel G Hf oa ρ τ σ H) : Rel G Hf oa (ρ.set i .un) τ (σ.set i none) H := by
  refine ⟨r.good, by simp [r.len], fun j e q => ?_, fun j e q => ?_, fun j k d1 d2 hjk q1 q2 => ?_⟩
  · rcases get_set q with ⟨rfl, e', hl⟩ | ⟨n, q⟩
    · cases e'
    · rw [List.getElem?_set_ne (Ne.symm n)]; exact r.fz j e q
  · rcases get_set q with ⟨rfl, e', hl⟩ | ⟨n, q⟩
    · cases e'
    · rw [List.getElem?_set_ne (Ne.symm n)]; exact r.ow j e q
  · rcases get_set q1 with ⟨rfl, e', hl⟩ | ⟨n, q1⟩
    · cases e'
    · rcases get_set q2 with ⟨rfl, e', hl⟩ | ⟨n2, q2⟩
      · cases e'
      · rw [List.getElem?_set_ne (Ne.symm n), List.getElem?_set_ne (Ne.symm n2)]; exact r.dis j k d1 d2 hjk q1 q2
def wipeE (ρ : En) : List Nat → En
  | [] => ρ
  | v :: vs => (wipeE ρ vs).set v .un
theorem Rel.wipe (r : Rel G Hf oa ρ τ σ H) : ∀ vs : List Nat, Rel G Hf oa (wipeE ρ vs) τ (L2.wipe σ vs) H
  | [] => r
  | v :: vs => (Rel.wipe r vs).wipe1

/-! ### targets -/
inductive Tg where
  | name (i : Nat) | tup (l : List Tg)
mutual
def bindD : Tg → D → En → Option En
  | .name i, d, ρ => some (ρ.set i (.fz d))
  | .tup ts, .tup ds, ρ => bindL ts ds ρ
  | .tup _, _, _ => none
def bindL : List Tg → List D → En → Option En
  | [], [], ρ => some ρ
  | t :: ts, d :: ds, ρ => (bindD t d ρ).bind (bindL ts ds)
  | _, _, _ => none
end
mutual
def slotsT : Tg → List Nat
  | .name i => [i]
  | .tup ts => slotsTs ts
def slotsTs : List Tg → List Nat
  | [] => []
  | t :: ts => slotsT t ++ slotsTs ts
end
mutual
def gT (K : PySem.W.Frag) : Tg → TG
  | .name i => gName i
  | .tup ts => gTup K ts.length (gTs K ts)
def gTs (K : PySem.W.Frag) : List Tg → TGs
  | [] => gNil
  | t :: ts => gCons (gT K t) (gTs K ts)
end
/-- what a target's binding changes -/
structure Chg (S : List Nat) (ρ : En) (σ : L2.St) (ρ' : En) (σ' : L2.St) : Prop where
  len : σ'.length = σ.length
  out : ∀ k, k ∉ S → σ'[k]? = σ[k]?
  ow : ∀ (i : Nat) d, ρ'[i]? = some (.ow d) → ρ[i]? = some (.ow d) ∧ σ'[i]? = σ[i]?
theorem Chg.rfl' {ρ : En} {σ : L2.St} : Chg [] ρ σ ρ σ := ⟨rfl, fun _ _ => rfl, fun _ _ h => ⟨h, rfl⟩⟩
theorem Chg.tr {S S' : List Nat} {ρ ρ1 ρ2 : En} {σ σ1 σ2 : L2.St} (a : Chg S ρ σ ρ1 σ1) (b : Chg S' ρ1 σ1 ρ2 σ2) : Chg (S ++ S') ρ σ ρ2 σ2 :=
  ⟨b.len.trans a.len, fun k h => (b.out k fun z => h (List.mem_append_right _ z)).trans (a.out k fun z => h (List.mem_append_left _ z)), fun i d h => let ⟨h1, h2⟩ := b.ow i d h; let ⟨h3, h4⟩ := a.ow i d h1; ⟨h3, h2.trans h4⟩⟩
theorem Chg.name {i : Nat} {d : D} {v : Option V} : Chg [i] ρ σ (ρ.set i (.fz d)) (σ.set i v) :=
  ⟨by simp, fun k h => List.getElem?_set_ne (fun z => h (by simp [z])), fun j e q => by
    rcases get_set q with ⟨rfl, e', hl⟩ | ⟨n, q⟩
    · cases e'
    · exact ⟨q, List.getElem?_set_ne (Ne.symm n)⟩⟩
mutual
theorem gt_ok : ∀ (t : Tg) {d : D} {v : V} {ρ ρ' : En} {σ : L2.St} {Q : L2.St → Hp → Prop}, Rel G Hf oa ρ τ σ H → Rp G oa Hf d v → bindD t d ρ = some ρ' →
    (∀ σ', Rel G Hf oa ρ' τ σ' H → Chg (slotsT t) ρ σ ρ' σ' → Q σ' H) → gT G.K t v σ H Q
  | .name i, d, v, ρ, ρ', σ, Q, r, h, e, k => by
    rw [bindD] at e
    cases e
    rw [gT]
    rw [slotsT] at k
    exact k _ (r.set h) Chg.name
  | .tup ts, d, v, ρ, ρ', σ, Q, r, h, e, k => by
    cases d with
    | tup ds =>
      rw [bindD] at e
      obtain ⟨a, xs, rfl, hs, hx⟩ := rp_tup.mp h
      rw [gT]
      rw [slotsT] at k
      refine ⟨a, xs, rfl, r.good.ex.t hs, ?_, gts_ok ts r hx e k⟩
      rw [hx.length]
      exact (bindL_len ts ds ρ ρ' e).symm
    | _ => rw [bindD] at e <;> first | cases e | (intro _ z; cases z)
theorem gts_ok : ∀ (ts : List Tg) {ds : List D} {vs : List V} {ρ ρ' : En} {σ : L2.St} {Q : L2.St → Hp → Prop}, Rel G Hf oa ρ τ σ H → RpA G oa Hf ds vs → bindL ts ds ρ = some ρ' →
    (∀ σ', Rel G Hf oa ρ' τ σ' H → Chg (slotsTs ts) ρ σ ρ' σ' → Q σ' H) → gTs G.K ts vs σ H Q
  | [], ds, vs, ρ, ρ', σ, Q, r, h, e, k => by
    cases ds with
    | nil =>
      rw [bindL] at e
      cases e
      rw [rpa_nil] at h
      rw [gTs]
      rw [slotsTs] at k
      exact ⟨h, k _ r .rfl'⟩
    | cons _ _ => rw [bindL] at e <;> first | cases e | simp
  | t :: ts, ds, vs, ρ, ρ', σ, Q, r, h, e, k => by
    cases ds with
    | nil => rw [bindL] at e <;> first | cases e | simp
    | cons d ds =>
      rw [bindL] at e
      obtain ⟨v, vr, rfl, h1, h2⟩ := rpa_cons.mp h
      cases e1 : bindD t d ρ with
      | none => rw [e1] at e; cases e
      | some ρ1 =>
        rw [e1] at e
        rw [gTs]
        rw [slotsTs] at k
        exact ⟨v, vr, rfl, gt_ok t r h1 e1 fun σ1 r1 c1 => gts_ok ts r1 h2 e fun σ2 r2 c2 => k σ2 r2 (c1.tr c2)⟩
theorem bindL_len : ∀ (ts : List Tg) (ds : List D) (ρ ρ' : En), bindL ts ds ρ = some ρ' → ts.length = ds.length
  | [], [], _, _, _ => rfl
  | [], _ :: _, _, _, e => by rw [bindL] at e <;> first | cases e | simp
  | _ :: _, [], _, _, e => by rw [bindL] at e <;> first | cases e | simp
  | t :: ts, d :: ds, ρ, ρ', e => by
    rw [bindL] at e
    cases e1 : bindD t d ρ with
    | none => rw [e1] at e; cases e
    | some ρ1 =>
      rw [e1] at e
      show ts.length + 1 = ds.length + 1
      rw [bindL_len ts ds ρ1 ρ' e]
end
theorem wipe_out {S vs : List Nat} {σ σ' : L2.St} (l : σ'.length = σ.length) (o : ∀ k, k ∉ S → σ'[k]? = σ[k]?) (s : ∀ k ∈ S, k ∈ vs) : L2.wipe σ' vs = L2.wipe σ vs := by
  have key : ∀ (vs : List Nat) (σ : L2.St) (k : Nat), (L2.wipe σ vs)[k]? = if k ∈ vs then (if k < σ.length then some none else none) else σ[k]? := by
    intro vs
    induction vs with
    | nil => intro σ k; simp [L2.wipe]
    | cons v vs ih =>
      intro σ k
      unfold L2.wipe
      by_cases e : v = k
      · subst e
        by_cases hl : v < σ.length
        · rw [List.getElem?_set_self (by rw [wipe_length]; exact hl)]
          simp [hl]
        · rw [List.getElem?_eq_none (by rw [List.length_set, wipe_length]; omega)]
          simp [hl]
      · rw [List.getElem?_set_ne e, ih]
        simp [Ne.symm e]
  apply List.ext_getElem?
  intro k
  rw [key, key, l]
  by_cases h : k ∈ vs
  · rw [if_pos h, if_pos h]
  · rw [if_neg h, if_neg h]
    exact o k fun z => h (s k z)
theorem RelS.bind {ρ' : En} {σ' : L2.St} {S : List Nat} (r : RelS G B Hf oa ρ τ σ H) (r' : Rel G Hf oa ρ' τ σ' H) (c : Chg S ρ σ ρ' σ') : RelS G B Hf oa ρ' τ σ' H :=
  ⟨r', r.base, fun i d l e1 e2 => let ⟨h1, h2⟩ := c.ow i d e1; r.fresh i d l h1 (by rw [← h2]; exact e2)⟩
/-! ### name = value, (a, b) = value -/
def fAsg (t : Tg) (f : Fe) : En → M Out := fun ρ => M.bnd (f ρ) fun d => M.bnd (M.opt (bindD t d ρ)) fun ρ' => M.ret (.next ρ')
theorem ts_asg {t : Tg} {f : Fe} {D : Ends} (h : tS G B E (fAsg t f) D σ H) : tAsg (Ev G E (RE G) f) (gT G.K t) D σ H := by
  obtain ⟨Hf, oa, ρ, τ, r, a⟩ := h
  refine ⟨Hf, oa, ρ, τ, r.rel, a.bnd r fun d τ1 v H1 Hf1 oa1 _ p1 g1 q1 r1 a1 => ?_⟩
  cases e : bindD t d ρ with
  | none => rw [e] at a1; exact False.elim a1
  | some ρ' =>
    rw [e] at a1
    exact gt_ok t r1.rel q1 e fun σ' r' c => a1 σ' H1 Hf1 oa1 .rfl' .rfl' (r1.bind r' c)
/-! ### for -/
def loopK (k : En → M Out) : Out → M Out
  | .next ρ => k ρ
  | .cont ρ => k ρ
  | .brk ρ => M.ret (.next ρ)
  | .ret d => M.ret (.ret d)
def loopF (t : Tg) (body : En → M Out) : List D → En → M Out
  | [], ρ => M.ret (.next ρ)
  | d :: ds, ρ => M.bnd (M.opt (bindD t d ρ)) fun ρ1 => M.bnd (body ρ1) (loopK (loopF t body ds))
def fFor (fi : En → M (List D)) (t : Tg) (body : En → M Out) : En → M Out := fun ρ => M.bnd (fi ρ) fun ds => loopF t body ds ρ
theorem ats_loop {k : En → M Out} {m : M Out} {Hf : Hp} {oa : List (List Addr)} {τ : Tau} {D : Ends} {N : L2.St → Hp → Prop} (a : AtS G B E (M.bnd m (loopK k)) Hf oa τ D)
    (hN : ∀ ρ' τ' σ' H' Hf' oa', Ex Hf Hf' → OaX oa oa' → RelS G B Hf' oa' ρ' τ' σ' H' → AtS G B E (k ρ') Hf' oa' τ' D → N σ' H') : AtS G B E m Hf oa τ { D with nx := N, ct := N, bk := D.nx } := by
  unfold AtS at a
  unfold AtS
  cases e : m τ with
  | ok o τ1 =>
    rw [bnd_ok e] at a
    cases o with
    | next ρ1 => exact fun σ' H' Hf' oa' e1 o1 r1 => hN ρ1 τ1 σ' H' Hf' oa' e1 o1 r1 (AtS.shift (Hf := Hf) (oa := oa) (by unfold AtS; exact a) e1 o1)
    | cont ρ1 => exact fun σ' H' Hf' oa' e1 o1 r1 => hN ρ1 τ1 σ' H' Hf' oa' e1 o1 r1 (AtS.shift (Hf := Hf) (oa := oa) (by unfold AtS; exact a) e1 o1)
    | brk ρ1 => exact a
    | ret d => exact a
  | exc c τ1 => rw [bnd_exc e] at a; exact a
  | stuck => rw [bnd_stuck e] at a; exact a
theorem ts_for {fi : En → M (List KF.D)} {t : Tg} {body : En → M Out} {D : Ends} (h : tS G B E (fFor fi t body) D σ H) : tFor (Ev G E (RI G) fi) (gT G.K t) (tS G B E body) D σ H := by
  obtain ⟨Hf, oa, ρ, τ, r, a⟩ := h
  refine ⟨Hf, oa, ρ, τ, r.rel, a.bnd r fun ds τ1 J H1 Hf1 oa1 _ p1 g1 y r1 a1 => ?_⟩
  refine ⟨fun i m σ' H' => m = ds.length - i ∧ i ≤ ds.length ∧ ∃ Hf' oa' ρ' τ', RelS G B Hf' oa' ρ' τ' σ' H' ∧ Ex Hf1 Hf' ∧ OaX oa1 oa' ∧ AtS G B E (loopF t body (ds.drop i) ρ') Hf' oa' τ' D,
    ⟨ds.length, by simp, Nat.zero_le _, Hf1, oa1, ρ, τ1, r1, .rfl', .rfl', a1⟩, ?_⟩
  rintro i m σ' H' ⟨rfl, hi, Hf', oa', ρ', τ', r', ex, ox, a'⟩
  have yi := y i Hf' H' oa' ex r'.rel.good.ex ox
  by_cases hlt : i < ds.length
  · obtain ⟨go, yld⟩ := yi.1 hlt
    refine .inr ⟨go, _, fun σ2 H2 n2 => ⟨ds.length - (i + 1), by omega, n2⟩, fun x H2 hy => ?_⟩
    obtain ⟨Hf2, d, pu, ed, rx⟩ := yld x H2 hy
    have hd : ds.drop i = d :: ds.drop (i + 1) := by
      rw [List.drop_eq_getElem_cons hlt]
      rw [List.getElem?_eq_getElem hlt] at ed
      rw [Option.some.inj ed]
    rw [hd] at a'
    unfold loopF at a'
    have r2 := r'.post (pu.post (T := G.T) (oa := oa')) (r'.rel.good.pure pu)
    cases e : bindD t d ρ' with
    | none => rw [e] at a'; exact False.elim a'
    | some ρ2 =>
      rw [e] at a'
      refine gt_ok t r2.rel rx e fun σ3 r3 c3 => ⟨Hf2, oa', ρ2, τ', r2.bind r3 c3, ats_loop (AtS.shift (show AtS G B E (M.bnd (body ρ2) (loopK (loopF t body (ds.drop (i + 1))))) Hf' oa' τ' D from a') pu.exf .rfl') ?_⟩
      intro ρ4 τ4 σ4 H4 Hf4 oa4 e4 o4 r4 a4
      exact ⟨rfl, hlt, Hf4, oa4, ρ4, τ4, r4, (ex.tr pu.exf).tr e4, ox.tr o4, a4⟩
  · have e : i = ds.length := by omega
    subst e
    refine .inl ⟨yi.2 rfl, ?_⟩
    rw [List.drop_length] at a'
    exact a' σ' H' Hf' oa' .rfl' .rfl' r'
/-! ### while -/
def whileF (t : Ft) (body : En → M Out) : Nat → En → M Out
  | 0, _ => M.fail
  | n + 1, ρ => M.bnd (t ρ) fun b => if b = true then M.bnd (body ρ) (loopK (whileF t body n)) else M.ret (.next ρ)
theorem ts_while {t : Ft} {body : En → M Out} {n : Nat} {D : Ends} (h : tS G B E (whileF t body n) D σ H) : tWhile (Ev G E RT t) (tS G B E body) D σ H := by
  obtain ⟨Hf, oa, ρ, τ, r, a⟩ := h
  refine ⟨fun m σ' H' => ∃ Hf' oa' ρ' τ', RelS G B Hf' oa' ρ' τ' σ' H' ∧ AtS G B E (whileF t body m ρ') Hf' oa' τ' D, ⟨n, Hf, oa, ρ, τ, r, a⟩, ?_⟩
  rintro m σ' H' ⟨Hf', oa', ρ', τ', r', a'⟩
  cases m with
  | zero => exact False.elim a'
  | succ m =>
    unfold whileF at a'
    refine ⟨Hf', oa', ρ', τ', r'.rel, a'.bnd r' fun b τ1 v H1 Hf1 oa1 _ p1 g1 q1 r1 a1 => ?_⟩
    have q1 : v = b := q1
    subst q1
    cases v with
    | false => exact (show AtS G B E (M.ret (.next ρ')) Hf1 oa1 τ1 D from a1) σ' H1 Hf1 oa1 .rfl' .rfl' r1
    | true =>
      refine ⟨_, fun σ2 H2 n2 => ⟨m, Nat.lt_succ_self _, n2⟩, Hf1, oa1, ρ', τ1, r1, ats_loop (show AtS G B E (M.bnd (body ρ') (loopK (whileF t body m))) Hf1 oa1 τ1 D from a1) ?_⟩
      intro ρ4 τ4 σ4 H4 Hf4 oa4 e4 o4 r4 a4
      exact ⟨Hf4, oa4, ρ4, τ4, r4, a4⟩
end
end KF
set_option maxHeartbeats 4000000
/-! KF4: comprehensions, displays, lists that a frame holds alone. -/
namespace KF
open PySem PySem.Spec PyProof.Rows L2
section
variable {G : GC} {B : Bs} {E : XK} {X : Cx} {Hf H : Hp} {oa : List (List Addr)} {ρ : En} {τ : Tau} {σ : L2.St}

/-! ### displays -/
/-- a new list that is kept: relative to the heap H0 ahead -/
abbrev RO (G : GC) (H0 : Hp) : List (List Addr) → Hp → Hp → D → V → Prop := fun oa Hf H d v => Own G oa Hf H d v ∧ ∀ l, v = .ref l → No H0 l
/-- .. its reading -/
def EvO (G : GC) (E : XK) (f : Fe) (σ : L2.St) (H : Hp) (Q : VK) : Prop := ∃ Hf oa ρ τ, Rel G Hf oa ρ τ σ H ∧ At G E (RO G H) (f ρ) Hf oa τ H Q
def fSz (g : List D → D) (fa : Fa) : Fe := fun ρ => M.bnd (fa ρ) fun ds => if ds.length ≤ SZ then M.ret (g ds) else M.fail
theorem At.ite {α β : Type} {R : List (List Addr) → Hp → Hp → α → β → Prop} {c : Prop} [Decidable c] {m : M α} {Q : β → Hp → Prop} (a : At G E R (if c then m else M.fail) Hf oa τ H Q) : c ∧ At G E R m Hf oa τ H Q := by
  by_cases h : c
  · rw [if_pos h] at a; exact ⟨h, a⟩
  · rw [if_neg h] at a; exact False.elim a
theorem ev_tup {fa : Fa} {Q : VK} (h : Ev G E (RE G) (fSz .tup fa) σ H Q) : tTup (Ev G E (RA G) fa) σ H Q := by
  obtain ⟨Hf, oa, ρ, τ, rel, a⟩ := h
  refine ⟨Hf, oa, ρ, τ, rel, a.bnd fun ds τ1 vs H1 Hf1 oa1 _ p1 g1 r1 a1 => ?_⟩
  obtain ⟨hl, a2⟩ := a1.ite
  refine ⟨by rw [RpA.length r1]; exact sz_le hl, fun p hp => ?_⟩
  have pu := Pure.new (o := .tup vs) g1.ex hp
  exact a2.pure g1 pu (rp_tup.mpr ⟨p, vs, rfl, .of upd_same, RpA.mono pu.exf .rfl' r1⟩)
theorem ev_lst {fa : Fa} {Q : VK} (h : Ev G E (RE G) (fSz .lst fa) σ H Q) : tLst (Ev G E (RA G) fa) σ H Q := by
  obtain ⟨Hf, oa, ρ, τ, rel, a⟩ := h
  refine ⟨Hf, oa, ρ, τ, rel, a.bnd fun ds τ1 vs H1 Hf1 oa1 _ p1 g1 r1 a1 => ?_⟩
  obtain ⟨hl, a2⟩ := a1.ite
  refine ⟨by rw [RpA.length r1]; exact sz_le hl, fun p hp => ?_⟩
  have pu := Pure.new (o := .lst vs) g1.ex hp
  exact a2.pure g1 pu (rp_lst.mpr ⟨p, vs, rfl, .inl upd_same, RpA.mono pu.exf .rfl' r1⟩)
/-- a new address is none of the state's -/
theorem Good.nvol {Hf1 H1 : Hp} {oa1 : List (List Addr)} {τ1 : Tau} {p : Addr} (g : Good G Hf1 oa1 τ1 H1) (hp : H1 p = none) : ¬ Vol G.T oa1 p := fun v => by
  obtain ⟨u, h⟩ := g.at v
  rw [hp] at h; cases h
theorem Good.nfz {Hf1 H1 : Hp} {oa1 : List (List Addr)} {τ1 : Tau} {p : Addr} (g : Good G Hf1 oa1 τ1 H1) (hp : H1 p = none) : Hf1 p = none := by
  cases q : Hf1 p with
  | none => rfl
  | some u => rw [g.ex p u q] at hp; cases hp
theorem ev_lstO {fa : Fa} {Q : VK} (h : EvO G E (fSz .lst fa) σ H Q) : tLst (Ev G E (RA G) fa) σ H Q := by
  obtain ⟨Hf, oa, ρ, τ, rel, a⟩ := h
  refine ⟨Hf, oa, ρ, τ, rel, a.bnd fun ds τ1 vs H1 Hf1 oa1 _ p1 g1 r1 a1 => ?_⟩
  obtain ⟨hl, a2⟩ := a1.ite
  refine ⟨by rw [RpA.length r1]; exact sz_le hl, fun p hp => ?_⟩
  have pu := Pure.newO (o := .lst vs) g1.ex hp
  exact a2.pure g1 pu ⟨⟨p, vs, rfl, upd_same, g1.nfz hp, g1.nvol hp, r1⟩, fun l e => by cases e; exact p1.old (.of hp)⟩
/-- x = a new list (dict) that the frame alone holds -/
def fAsgO (i : Nat) (f : Fe) : En → M Out := fun ρ => M.bnd (f ρ) fun d => M.ret (.next (ρ.set i (.ow d)))
theorem Own.ref {d : D} {v : V} (o : Own G oa Hf H d v) : ∃ l, v = .ref l := by
  cases d with
  | lst ds => obtain ⟨l, _, e, _⟩ := o; exact ⟨l, e⟩
  | dic ks ds => obtain ⟨l, _, e, _⟩ := o; exact ⟨l, e⟩
  | dnt ks ds => obtain ⟨l, _, _, _, _, e, _⟩ := o; exact ⟨l, e⟩
  | _ => exact o.elim
theorem Own.at {d : D} {l : Addr} (o : Own G oa Hf H d (.ref l)) : ∃ u, H l = some u := by
  cases d with
  | lst ds => obtain ⟨l, _, e, h, _⟩ := o; cases e; exact ⟨_, h⟩
  | dic ks ds => obtain ⟨l, _, e, h, _⟩ := o; cases e; exact ⟨_, h⟩
  | dnt ks ds => obtain ⟨l, _, _, _, _, e, h, _⟩ := o; cases e; exact ⟨_, h⟩
  | _ => exact o.elim
theorem Own.ntb {d : D} {l : Addr} (o : Own G oa Hf H d (.ref l)) (ps : Array Value) : H l ≠ some (.tbl ps) := fun z => by
  cases d with
  | lst ds => obtain ⟨l, _, e, h, _⟩ := o; cases e; rw [h] at z; cases z
  | dic ks ds => obtain ⟨l, _, e, h, _⟩ := o; cases e; rw [h] at z; cases z
  | dnt ks ds => obtain ⟨l, _, _, _, _, e, h, _⟩ := o; cases e; rw [h] at z; unfold RawE at z; cases z
  | _ => exact o.elim
theorem RelS.setO {Hf0 H0 : Hp} {oa0 : List (List Addr)} {τ0 : Tau} {d : D} {l : Addr} {i : Nat} (r0 : RelS G B Hf0 oa0 ρ τ0 σ H0) (r : RelS G B Hf oa ρ τ σ H) (h : Own G oa Hf H d (.ref l)) (n : No H0 l) : RelS G B Hf oa (ρ.set i (.ow d)) τ (σ.set i (some (.ref l))) H := by
  refine ⟨r.rel.setO h fun j e hj q z => ?_, r.base, fun j e l' q1 q2 => ?_⟩
  · obtain ⟨v, e1, e2⟩ := r0.rel.ow j e q
    rw [z] at e1; cases e1
    obtain ⟨u, hu⟩ := e2.at
    exact n u hu fun ps z => e2.ntb ps (by rw [hu, z])
  · rcases get_set q1 with ⟨rfl, e', hl⟩ | ⟨nj, q1⟩
    · rw [List.getElem?_set_self (by rw [← r.rel.len]; exact hl)] at q2
      cases q2
      exact r0.base.old n
    · rw [List.getElem?_set_ne (Ne.symm nj)] at q2
      exact r.fresh j e l' q1 q2
theorem ts_asgO {i : Nat} {f : Fe} {D : Ends} (h : tS G B E (fAsgO i f) D σ H) : tAsg (EvO G E f) (gName i) D σ H := by
  obtain ⟨Hf, oa, ρ, τ, r, a⟩ := h
  refine ⟨Hf, oa, ρ, τ, r.rel, a.bnd r fun d τ1 v H1 Hf1 oa1 _ p1 g1 q1 r1 a1 => ?_⟩
  obtain ⟨o, n⟩ := q1
  obtain ⟨l, rfl⟩ := o.ref
  exact a1 _ H1 Hf1 oa1 .rfl' .rfl' (r.setO r1 o (n l rfl))
theorem heap_of : ∀ l : Nat, ∃ h : Heap, h.objs.size = l
  | 0 => ⟨{}, rfl⟩
  | l + 1 => by
    obtain ⟨h, e⟩ := heap_of l
    exact ⟨h.push { cls := .none, data := .fields #[] }, by rw [Heap.size_push, e]⟩
theorem raw_ne_code {l : Addr} {es : Array DictEntry} {ep : Nat} {q : Str} (z : RawE l es ep = LamX.CodeO l q) : False := by
  unfold RawE LamX.CodeO at z
  injection z with z
  obtain ⟨h, e⟩ := heap_of l
  have z := congrFun z (h.push { cls := .type "dict", data := .dict es ep })
  have g : (h.push { cls := .type "dict", data := .dict es ep }).get? l = some { cls := .type "dict", data := .dict es ep } := by rw [← e]; exact Heap.get?_push_size _ rfl
  have z1 : ∃ o, (h.push { cls := .type "dict", data := .dict es ep }).get? l = some o ∧ o.ExactDict ∧ o.data = .dict es ep := ⟨_, g, ⟨rfl, rfl, rfl⟩, rfl⟩
  rw [z] at z1
  obtain ⟨oc, vs, t, h1, h2, _⟩ := z1
  rw [g] at h1
  cases h1
  cases h2
theorem ats_opt0 {α : Type} {o : Option α} {k : α → M Out} {Hf : Hp} {oa : List (List Addr)} {τ : Tau} {D : Ends} (a : AtS G B E (M.bnd (M.opt o) k) Hf oa τ D) : ∃ d, o = some d ∧ AtS G B E (k d) Hf oa τ D := by
  cases o with
  | none => exact False.elim a
  | some d => exact ⟨d, rfl, a⟩
/-- y = x, x held alone: the list goes on as a value; x is forgotten -/
def fMove (i j : Nat) : En → M Out := fun ρ => M.bnd (M.opt (frzOf ρ j)) fun d => M.ret (.next ((ρ.set j .un).set i (.fz d)))
/-- an owned thing is frozen -/
theorem RelS.freeze {d : D} {j : Nat} {v : V} (nd : notDic d = true) (r : RelS G B Hf oa ρ τ σ H) (e : ρ[j]? = some (.ow d)) (ev : σ[j]? = some (some v)) : ∃ Hf', Ex Hf Hf' ∧ RelS G B Hf' oa (ρ.set j .un) τ σ H ∧ Rp G oa Hf' d v := by
  obtain ⟨v', e1, o⟩ := r.rel.ow j d e
  rw [ev] at e1; cases e1
  obtain ⟨l, rfl⟩ := o.ref
  obtain ⟨u, hu, hf, nv, rp⟩ : ∃ u, H l = some u ∧ Hf l = none ∧ ¬ Vol G.T oa l ∧ ∀ Hf', Ex Hf Hf' → Hf' l = some u → Rp G oa Hf' d (.ref l) := by
    cases d with
    | lst ds =>
      obtain ⟨l, vs, e, h1, h2, h3, h4⟩ := o
      cases e
      exact ⟨_, h1, h2, h3, fun Hf' ex h => rp_lst.mpr ⟨l, vs, rfl, .inl h, h4.mono ex .rfl'⟩⟩
    | dic ks ds => cases nd
    | dnt ks ds =>
      obtain ⟨l, es, ep, xs, ws, e, h1, h2, h3, h4, h5, h6, h7, h8, h9, h10, h11⟩ := o
      cases e
      exact ⟨_, h1, h2, h3, fun Hf' ex h => rp_dnt.mpr ⟨l, es, ep, xs, ws, rfl, h, h4, h5, h6, h7, h8, h9.mono ex .rfl', h10, h11.mono ex .rfl'⟩⟩
    | _ => exact o.elim
  have ex : Ex Hf (upd Hf l u) := fun a o h => by rw [upd_ne (ne_of_none h hf)]; exact h
  have bl : No B.H l := r.fresh j d l e ev
  have nu : Nt u := fun ps z => o.ntb ps (by rw [hu, z])
  refine ⟨upd Hf l u, ex, ⟨⟨⟨fun a o h => ?_, r.rel.good.tok, r.rel.good.tab, fun a v => ?_, fun a ps h => (by
    by_cases z : a = l
    · subst z; rw [upd_same] at h; exact nu ps (Option.some.inj h)
    · rw [upd_ne z] at h; exact r.rel.good.ntb a ps h)⟩, by simp [r.rel.len], fun k d' q => ?_, fun k d' q => ?_, fun k m d1 d2 hkm q1 q2 => ?_⟩, ⟨r.base.exf.tr ex, @r.base.keep, fun a o h n t => ?_, r.base.oax, r.base.new, r.base.per⟩, fun k d' l' q1 q2 => ?_⟩, rp _ ex upd_same⟩
  · by_cases z : a = l
    · subst z; rw [upd_same] at h; rw [hu]; exact h
    · rw [upd_ne z] at h; exact r.rel.good.ex a o h
  · rw [upd_ne (fun z => nv (by rw [← z]; exact v))]; exact r.rel.good.vol a v
  · rcases get_set q with ⟨rfl, e', hl⟩ | ⟨n, q⟩
    · cases e'
    · obtain ⟨w, h1, h2⟩ := r.rel.fz k d' q
      exact ⟨w, h1, h2.mono ex .rfl'⟩
  · rcases get_set q with ⟨rfl, e', hl⟩ | ⟨n, q⟩
    · cases e'
    · obtain ⟨w, h1, h2⟩ := r.rel.ow k d' q
      refine ⟨w, h1, ?_⟩
      have ne : ∀ l', w = .ref l' → l' ≠ l := fun l' ew z => by
        subst ew; subst z
        exact r.rel.dis k j d' d n q e (by rw [h1, ev])
      cases d' with
      | lst ds =>
        obtain ⟨l', vs, ew, h3, h4, h5, h6⟩ := h2
        exact ⟨l', vs, ew, h3, by rw [upd_ne (ne l' ew)]; exact h4, h5, h6.mono ex .rfl'⟩
      | dic ks ds =>
        obtain ⟨l', vs, ew, h3, h4, h5, h6, h7⟩ := h2
        exact ⟨l', vs, ew, h3, by rw [upd_ne (ne l' ew)]; exact h4, h5, h6, h7.mono ex .rfl'⟩
      | dnt ks ds =>
        obtain ⟨l', es, ep, xs, ws, ew, h3, h4, h5, h6, h7, h8, h9, h10, h11, h12, h13⟩ := h2
        exact ⟨l', es, ep, xs, ws, ew, h3, by rw [upd_ne (ne l' ew)]; exact h4, h5, h6, h7, h8, h9, h10, h11.mono ex .rfl', h12, h13.mono ex .rfl'⟩
      | _ => exact h2.elim
  · rcases get_set q1 with ⟨rfl, e', hl⟩ | ⟨n, q1⟩
    · cases e'
    · rcases get_set q2 with ⟨rfl, e', hl⟩ | ⟨n2, q2⟩
      · cases e'
      · exact r.rel.dis k m d1 d2 hkm q1 q2
  · rw [upd_ne (fun z => bl o (by rw [← z]; exact h) t)]; exact r.base.fz a o h n t
  · rcases get_set q1 with ⟨rfl, e', hl⟩ | ⟨n, q1⟩
    · cases e'
    · exact r.fresh k d' l' q1 q2
theorem ts_move {i j : Nat} {D : Ends} (h : tS G B E (fMove i j) D σ H) : tAsg (tVar j) (gName i) D σ H := by
  obtain ⟨Hf, oa, ρ, τ, r, a⟩ := h
  obtain ⟨d, e0, a⟩ := ats_opt0 a
  obtain ⟨e, nd⟩ := frzOf_some e0
  · obtain ⟨v, e1, o⟩ := r.rel.ow j d e
    obtain ⟨Hf', ex, r', rp⟩ := r.freeze nd e e1
    refine ⟨v, e1, a _ H Hf' oa ex .rfl' ⟨r'.rel.set rp, r'.base, fun k d' l' q1 q2 => ?_⟩⟩
    rcases get_set q1 with ⟨rfl, e', hl⟩ | ⟨n, q1⟩
    · cases e'
    · rw [List.getElem?_set_ne (Ne.symm n)] at q2
      exact r'.fresh k d' l' q1 q2
theorem ts_retO {i : Nat} {D : Ends} (h : tS G B E (fRetO i) D σ H) : tRet (tVar i) D σ H := by
  obtain ⟨Hf, oa, ρ, τ, r, a⟩ := h
  obtain ⟨d, e0, a⟩ := ats_opt0 a
  obtain ⟨e, nd⟩ := frzOf_some e0
  obtain ⟨v, e1, o⟩ := r.rel.ow i d e
  obtain ⟨Hf', ex, r', rp⟩ := r.freeze nd e e1
  exact ⟨v, e1, a v H Hf' oa r'.base r'.rel.good rp⟩
/-- the owned thing at slot i is changed -/
theorem RelS.change {d d' : D} {i : Nat} {l : Addr} {u : HO} (r : RelS G B Hf oa ρ τ σ H) (e : ρ[i]? = some (.ow d)) (ev : σ[i]? = some (some (.ref l))) (o' : Own G oa Hf (upd H l u) d' (.ref l)) : RelS G B Hf oa (ρ.set i (.ow d')) τ σ (upd H l u) := by
  obtain ⟨v', e1, o⟩ := r.rel.ow i d e
  rw [ev] at e1; cases e1
  obtain ⟨u0, hu⟩ := o.at
  have hf : Hf l = none ∧ ¬ Vol G.T oa l := by
    cases d with
    | lst ds => obtain ⟨l, vs, e, h1, h2, h3, h4⟩ := o; cases e; exact ⟨h2, h3⟩
    | dic ks ds => obtain ⟨l, vs, e, h1, h2, h3, h4, h5⟩ := o; cases e; exact ⟨h2, h3⟩
    | dnt ks ds => obtain ⟨l, _, _, _, _, e, h1, h2, h3, _⟩ := o; cases e; exact ⟨h2, h3⟩
    | _ => exact o.elim
  have bl : No B.H l := r.fresh i d l e ev
  have hil : i < ρ.length := (List.getElem?_eq_some_iff.mp e).1
  refine ⟨⟨⟨fun a o h => ?_, r.rel.good.tok.stay fun a v u h => ?_, fun p hp => ?_, r.rel.good.vol, r.rel.good.ntb⟩, by simp [r.rel.len], fun k d1 q => ?_, fun k d1 q => ?_, fun k m d1 d2 hkm q1 q2 => ?_⟩, ⟨r.base.exf, fun a o h n t => ?_, @r.base.fz, r.base.oax, r.base.new, fun a o h t => ?_⟩, fun k d1 l' q1 q2 => ?_⟩
  · rw [upd_ne (ne_of_none h hf.1)]; exact r.rel.good.ex a o h
  · rw [upd_ne (fun z => hf.2 (by rw [← z]; exact .inl v))]; exact h
  · obtain ⟨ps, h1, h2, h3⟩ := r.rel.good.tab p hp
    refine ⟨ps, by rw [upd_ne (fun z => hf.2 (by rw [← z]; exact .inr (List.mem_map.mpr ⟨p, hp, rfl⟩)))]; exact h1, h2, fun pos cv hc => ?_⟩
    obtain ⟨c, h4, h5⟩ := h3 pos cv hc
    refine ⟨c, h4, ?_⟩
    by_cases z : c = l
    · exfalso
      subst z
      cases d with
      | lst ds => obtain ⟨l, vs, e, h1, _⟩ := o; cases e; rw [h1] at h5; cases h5
      | dic ks ds => obtain ⟨l, vs, e, h1, _⟩ := o; cases e; rw [h1] at h5; cases h5
      | dnt ks ds => obtain ⟨l, _, _, _, _, e, h1, _⟩ := o; cases e; rw [h1] at h5; exact raw_ne_code (Option.some.inj h5)
      | _ => exact o.elim
    · rw [upd_ne z]; exact h5
  · rcases get_set q with ⟨rfl, e', hl⟩ | ⟨n, q⟩
    · cases e'
    · exact r.rel.fz k d1 q
  · rcases get_set q with ⟨rfl, e', hl⟩ | ⟨n, q⟩
    · cases e'; exact ⟨_, ev, o'⟩
    · obtain ⟨w, h1, h2⟩ := r.rel.ow k d1 q
      refine ⟨w, h1, ?_⟩
      have ne : ∀ l', w = .ref l' → l' ≠ l := fun l' ew z => by
        subst ew; subst z
        exact r.rel.dis k i d1 d n q e (by rw [h1, ev])
      cases d1 with
      | lst ds =>
        obtain ⟨l', vs, ew, h3, h4, h5, h6⟩ := h2
        exact ⟨l', vs, ew, by rw [upd_ne (ne l' ew)]; exact h3, h4, h5, h6⟩
      | dic ks ds =>
        obtain ⟨l', vs, ew, h3, h4, h5, h6, h7⟩ := h2
        exact ⟨l', vs, ew, by rw [upd_ne (ne l' ew)]; exact h3, h4, h5, h6, h7⟩
      | dnt ks ds =>
        obtain ⟨l', es, ep, xs, ws, ew, h3, h4, h5, h6, h7, h8, h9, h10, h11, h12, h13⟩ := h2
        exact ⟨l', es, ep, xs, ws, ew, by rw [upd_ne (ne l' ew)]; exact h3, h4, h5, h6, h7, h8, h9, h10, h11, h12, h13⟩
      | _ => exact h2.elim
  · rcases get_set q1 with ⟨rfl, e', hl⟩ | ⟨n, q1'⟩
    · rcases get_set q2 with ⟨rfl, e'', hl2⟩ | ⟨n2, q2'⟩
      · exact absurd rfl hkm
      · exact r.rel.dis k m d d2 hkm e q2'
    · rcases get_set q2 with ⟨rfl, e'', hl2⟩ | ⟨n2, q2'⟩
      · exact r.rel.dis k m d1 d hkm q1' e
      · exact r.rel.dis k m d1 d2 hkm q1' q2'
  · rw [upd_ne (fun z => bl o (by rw [← z]; exact h) t)]; exact r.base.keep a o h n t
  · by_cases z : a = l
    · subst z; exact ⟨u, upd_same, fun ps z => o'.ntb ps (by rw [upd_same, z])⟩
    · rw [upd_ne z]; exact r.base.per a o h t
  · rcases get_set q1 with ⟨rfl, e', hl⟩ | ⟨n, q1⟩
    · rw [ev] at q2; cases q2; exact bl
    · exact r.fresh k d1 l' q1 q2
def lstOf : Sl → Option (List D)
  | .ow (.lst ds) => some ds
  | _ => none
/-- x.append(e) -/
def fApp (i : Nat) (f : Fe) : En → M Out := fun ρ => M.bnd (M.opt ((ρ[i]?).bind lstOf)) fun ds => M.bnd (f ρ) fun d => if ds.length < SZ then M.ret (.next (ρ.set i (.ow (.lst (ds ++ [d]))))) else M.fail
theorem lstOf_some {i : Nat} {ds : List D} (h : (ρ[i]?).bind lstOf = some ds) : ρ[i]? = some (.ow (.lst ds)) := by
  cases e : ρ[i]? with
  | none => rw [e] at h; cases h
  | some s =>
    rw [e] at h
    cases s with
    | ow d => cases d <;> first | (cases h; rfl) | cases h
    | _ => cases h
theorem ats_opt {α : Type} {o : Option α} {k : α → M Out} {D : Ends} (a : AtS G B E (M.bnd (M.opt o) k) Hf oa τ D) : ∃ d, o = some d ∧ AtS G B E (k d) Hf oa τ D := by
  cases o with
  | none => exact False.elim a
  | some d => exact ⟨d, rfl, a⟩
theorem ats_ite {c : Prop} [Decidable c] {m : M Out} {D : Ends} (a : AtS G B E (if c then m else M.fail) Hf oa τ D) : c ∧ AtS G B E m Hf oa τ D := by
  by_cases h : c
  · rw [if_pos h] at a; exact ⟨h, a⟩
  · rw [if_neg h] at a; exact False.elim a
theorem Rel.owL {i : Nat} {ds : List D} (r : Rel G Hf oa ρ τ σ H) (e : ρ[i]? = some (.ow (.lst ds))) : ∃ l vs, σ[i]? = some (some (.ref l)) ∧ H l = some (.lst vs) ∧ Hf l = none ∧ ¬ Vol G.T oa l ∧ RpA G oa Hf ds vs := by
  obtain ⟨v, e1, l, vs, rfl, h⟩ := r.ow i _ e
  exact ⟨l, vs, e1, h⟩
theorem ts_app {i : Nat} {f : Fe} {D : Ends} (h : tS G B E (fApp i f) D σ H) : tDrop (tBM G.K "list" rAppend (tVar i) (tCons (Ev G E (RE G) f) tNil)) D σ H := by
  obtain ⟨Hf, oa, ρ, τ, r, a⟩ := h
  obtain ⟨ds, e, a⟩ := ats_opt a
  have e := lstOf_some e
  obtain ⟨l, vs, e1, e2, e3, e4, e5⟩ := r.rel.owL e
  refine ⟨.ref l, e1, .inl ⟨rfl, vs, .of e2⟩, Hf, oa, ρ, τ, r.rel, a.bnd r fun d τ1 v H1 Hf1 oa1 _ p1 g1 q1 r1 a1 => ?_⟩
  obtain ⟨hl, a2⟩ := ats_ite a1
  have h1 := p1.keep l _ e2 e4
  refine ⟨l, vs, v, rfl, rfl, h1, by rw [e5.length]; exact sz_lt (Nat.le_of_lt hl), ?_⟩
  refine a2 σ _ Hf1 oa1 .rfl' .rfl' (r1.change e e1 ⟨l, vs ++ [v], rfl, upd_same, (p1.fz l _ e2 e4).trans e3, p1.nv e2 e4, (e5.mono p1.exf p1.oax).snoc q1⟩)
/-- t = x.pop(0) -/
def fPop0 (i : Nat) (t : Tg) : En → M Out := fun ρ => M.bnd (M.opt ((ρ[i]?).bind lstOf)) fun ds => match ds with
  | [] => M.fail
  | d :: ds => M.bnd (M.opt (bindD t d (ρ.set i (.ow (.lst ds))))) fun ρ' => M.ret (.next ρ')
theorem ts_pop0 {i : Nat} {t : Tg} {D : Ends} (h : tS G B E (fPop0 i t) D σ H) : tAsg (tBM G.K "list" rPopAt (tVar i) (tCons (tC (.int 0)) tNil)) (gT G.K t) D σ H := by
  obtain ⟨Hf, oa, ρ, τ, r, a⟩ := h
  obtain ⟨ds, e, a⟩ := ats_opt a
  have e := lstOf_some e
  obtain ⟨l, vs, e1, e2, e3, e4, e5⟩ := r.rel.owL e
  refine ⟨.ref l, e1, .inl ⟨rfl, vs, .of e2⟩, ?_⟩
  cases ds with
  | nil => exact False.elim a
  | cons d ds =>
    obtain ⟨v, vr, rfl, h1, h2⟩ := rpa_cons.mp e5
    refine ⟨l, v :: vr, 0, 0, v, rfl, rfl, e2, by decide, by decide, ?_, rfl, ?_⟩
    · simp [seqIndex?]
    · obtain ⟨ρ', eb, a⟩ := ats_opt a
      have r1 := r.change e e1 (u := .lst vr) (d' := .lst ds) ⟨l, vr, rfl, upd_same, e3, e4, h2⟩
      exact gt_ok t r1.rel h1 eb fun σ' r' c => a σ' _ Hf oa .rfl' .rfl' (r1.bind r' c)

/-! ### comprehensions -/
theorem wipe_wipe (σ : L2.St) (vs : List Nat) : L2.wipe (L2.wipe σ vs) vs = L2.wipe σ vs := by
  refine wipe_out (S := vs) (by rw [wipe_length]) (fun k hk => ?_) (fun k h => h)
  have key : ∀ (vs : List Nat), k ∉ vs → (L2.wipe σ vs)[k]? = σ[k]? := by
    intro vs
    induction vs with
    | nil => intro _; rfl
    | cons v vs ih =>
      intro h
      unfold L2.wipe
      rw [List.getElem?_set_ne (fun z => h (by simp [z]))]
      exact ih fun z => h (List.mem_cons_of_mem _ z)
  exact key vs hk
def lcF (t : Tg) (ft : Ft) (fe : Fe) (ρ : En) : List D → M (List D)
  | [] => M.ret []
  | d :: ds => M.bnd (M.opt (bindD t d ρ)) fun ρ1 => M.bnd (noX (ft ρ1)) fun b => if b = true then M.bnd (noX (fe ρ1)) fun y => M.bnd (lcF t ft fe ρ ds) fun ys => M.ret (y :: ys) else lcF t ft fe ρ ds
def fLc (fi : En → M (List D)) (t : Tg) (ft : Ft) (fe : Fe) (vs : List Nat) : Fe := fun ρ => M.bnd (fi ρ) fun ds => if ds.length ≤ SZ then M.bnd (lcF t ft fe (wipeE ρ vs) ds) fun ys => M.ret (.lst ys) else M.fail
theorem At.bnd0 {α β γ δ : Type} {E' : XK} {R : List (List Addr) → Hp → Hp → α → β → Prop} {R2 : List (List Addr) → Hp → Hp → γ → δ → Prop} {m : M α} {k : α → M γ} {Hf1 H1 : Hp} {oa1 : List (List Addr)} {Q : δ → Hp → Prop} {C : β → Hp → Prop} (a : At G E R2 (M.bnd (KF.noX m) k) Hf1 oa1 τ H1 Q)
    (h : ∀ d τ1, m τ = .ok d τ1 → At G E R2 (k d) Hf1 oa1 τ1 H1 Q → ∀ v H' Hf' oa', Post G.T Hf oa H Hf' oa' H' → Good G Hf' oa' τ1 H' → R oa' Hf' H' d v → C v H') : At G E' R m Hf oa τ H C := by
  unfold At
  cases e : m τ with
  | ok d τ1 =>
    have e' : KF.noX m τ = .ok d τ1 := by unfold KF.noX; rw [e]
    refine fun v H' Hf' oa' p g r => h d τ1 e ?_ v H' Hf' oa' p g r
    unfold At at a ⊢
    rw [bnd_ok e'] at a
    exact a
  | exc c τ1 =>
    have e' : KF.noX m τ = .stuck := by unfold KF.noX; rw [e]
    unfold At at a
    rw [bnd_stuck e'] at a
    exact False.elim a
  | stuck =>
    have e' : KF.noX m τ = .stuck := by unfold KF.noX; rw [e]
    unfold At at a
    rw [bnd_stuck e'] at a
    exact a
theorem At.app {α β γ : Type} {R : List (List Addr) → Hp → Hp → α → β → Prop} {m m' : M α} {Q : β → Hp → Prop} (a : At G E R m Hf oa τ H Q) {τ' : Tau} (e : m τ = m' τ') : At G E R m' Hf oa τ' H Q := by
  unfold At at a ⊢
  rw [← e]
  exact a
theorem bnd_ret {α β : Type} (a : α) (k : α → M β) : M.bnd (M.ret a) k = k a := rfl
/-- the core: the new list at Dl, by the part that is done -/
theorem lc_core' {J : It} {ds : List D} {t : Tg} {ft : Ft} {fe : Fe} {vs : List Nat} {E0 : XK} {R : List (List Addr) → Hp → Hp → KF.D → V → Prop} {Q : VK} {H1 Hf1 : Hp} {oa1 : List (List Addr)} {τ1 : Tau} {Dl : Addr} (rel : Rel G Hf1 oa1 ρ τ1 σ H1) (y : Yl G oa1 Hf1 J ds) (hl : ds.length ≤ SZ) (hs : ∀ k ∈ slotsT t, k ∈ vs) (hD : H1 Dl = none)
    (a : At G E R (M.bnd (lcF t ft fe (wipeE ρ vs) ds) fun ys => M.ret (.lst ys)) Hf1 oa1 τ1 H1 Q)
    (fin : ∀ (ys : List KF.D) τ' (ws : List V) H' Hf' oa', Post G.T Hf1 oa1 H1 Hf' oa' H' → Good G Hf' oa' τ' H' → H' Dl = some (.lst ws) → Hf' Dl = none → ¬ Vol G.T oa' Dl → RpA G oa' Hf' ys ws → At G E R (M.ret (.lst ys)) Hf1 oa1 τ' H1 Q → Q (.ref Dl) H') :
    ∃ W : Nat → Nat → Hp → Prop, (∃ m, W 0 m (upd H1 Dl (.lst []))) ∧ ∀ i m H, W i m H →
      (J.stop i H ∧ Q (.ref Dl) H) ∨ (J.go i H ∧ ∃ Nx : Hp → Prop, (∀ H', Nx H' → ∃ m', m' < m ∧ W (i + 1) m' H') ∧ ∀ x H', J.yld i H x H' → gT G.K t x (L2.wipe σ vs) H' fun σ2 H2 => L2.wipe σ2 vs = L2.wipe σ vs ∧ Ev G E0 RT ft σ2 H2 fun b H3 =>
        if b = true then Ev G E0 (RE G) fe σ2 H3 fun y H4 => ∃ acc, H4 Dl = some (.lst acc) ∧ acc.length < sizeLine ∧ Nx (upd H4 Dl (.lst (acc ++ [y]))) else Nx H3) := by
  have pu0 := Pure.newO (o := .lst []) rel.good.ex hD
  refine ⟨fun i m H' => m = ds.length - i ∧ i ≤ ds.length ∧ ∃ Hf' oa' τ' done ws, Rel G Hf' oa' ρ τ' σ H' ∧ Post G.T Hf1 oa1 H1 Hf' oa' H' ∧ H' Dl = some (.lst ws) ∧ Hf' Dl = none ∧ ¬ Vol G.T oa' Dl ∧ RpA G oa' Hf' done ws ∧ done.length ≤ i ∧
      At G E R (M.bnd (lcF t ft fe (wipeE ρ vs) (ds.drop i)) fun ys => M.ret (.lst (done ++ ys))) Hf1 oa1 τ' H1 Q,
    ⟨ds.length, by simp, Nat.zero_le _, Hf1, oa1, τ1, [], [], rel.post pu0.post (rel.good.pure pu0), pu0.post, upd_same, rel.good.nfz hD, rel.good.nvol hD, rpa_nil.mpr rfl, Nat.zero_le _, a⟩, ?_⟩
  rintro i m H' ⟨rfl, hi, Hf', oa', τ', done, ws, r', p', e1, e2, e3, e4, e5, a'⟩
  have yi := y i Hf' H' oa' p'.exf r'.good.ex p'.oax
  by_cases hlt : i < ds.length
  · obtain ⟨go, yld⟩ := yi.1 hlt
    refine .inr ⟨go, _, fun H2 n2 => ⟨ds.length - (i + 1), by omega, n2⟩, fun x H2 hy => ?_⟩
    obtain ⟨Hf2, d, pu, ed, rx⟩ := yld x H2 hy
    have hd : ds.drop i = d :: ds.drop (i + 1) := by
      rw [List.drop_eq_getElem_cons hlt]
      rw [List.getElem?_eq_getElem hlt] at ed
      rw [Option.some.inj ed]
    rw [hd] at a'
    unfold lcF at a'
    rw [bnd_assoc] at a'
    have r2 := r'.post (pu.post (T := G.T) (oa := oa')) (r'.good.pure pu)
    have p2 := p'.tr (pu.post (oa := oa'))
    have d2 : H2 Dl = some (.lst ws) := pu.exh _ _ e1
    have f2 : Hf2 Dl = none := (pu.fz _ _ e1).trans e2
    cases e : bindD t d (wipeE ρ vs) with
    | none => rw [e] at a'; exact False.elim a'
    | some ρ2 =>
      rw [e] at a'
      have a' : At G E R (M.bnd (M.bnd (noX (ft ρ2)) fun b => if b = true then M.bnd (noX (fe ρ2)) fun y => M.bnd (lcF t ft fe (wipeE ρ vs) (ds.drop (i + 1))) fun ys => M.ret (y :: ys) else lcF t ft fe (wipeE ρ vs) (ds.drop (i + 1))) fun ys => M.ret (.lst (done ++ ys))) Hf1 oa1 τ' H1 Q := a'
      rw [bnd_assoc] at a'
      refine gt_ok t (r2.wipe vs) rx e fun σ3 r3 c3 => ⟨(wipe_out (σ := L2.wipe σ vs) (σ' := σ3) c3.len c3.out hs).trans (wipe_wipe σ vs), Hf2, oa', ρ2, τ', r3, a'.bnd0 fun b τ3 eb a3 v H3 Hf3 oa3 p3 g3 q3 => ?_⟩
      have q3 : v = b := q3
      subst q3
      have d3 := p3.keep _ _ d2 e3
      have f3 := (p3.fz _ _ d2 e3).trans f2
      have n3 := p3.nv d2 e3
      have r4 := r2.post p3 g3
      have p4 := p2.tr p3
      have w3 := (e4.mono pu.exf .rfl').mono p3.exf p3.oax
      cases v with
      | false => exact ⟨rfl, hlt, Hf3, oa3, τ3, done, ws, r4, p4, d3, f3, n3, w3, by omega, a3⟩
      | true =>
        have a3 : At G E R (M.bnd (M.bnd (noX (fe ρ2)) fun y => M.bnd (lcF t ft fe (wipeE ρ vs) (ds.drop (i + 1))) fun ys => M.ret (y :: ys)) fun ys => M.ret (.lst (done ++ ys))) Hf1 oa1 τ3 H1 Q := a3
        rw [bnd_assoc] at a3
        refine ⟨Hf3, oa3, ρ2, τ3, r3.post p3 g3, a3.bnd0 fun y τ4 ey a4 v H4 Hf4 oa4 p5 g5 q5 => ?_⟩
        have d4 := p5.keep _ _ d3 n3
        have f4 := (p5.fz _ _ d3 n3).trans f3
        have n4 := p5.nv d3 n3
        refine ⟨ws, d4, by rw [e4.length]; exact sz_lt (by omega), rfl, hlt, Hf4, oa4, τ4, done ++ [y], ws ++ [v], ?_, ?_, upd_same, f4, n4, (w3.mono p5.exf p5.oax).snoc q5, by simp; omega, ?_⟩
        · have r6 := r4.post p5 g5
          refine ⟨⟨fun b o h => ?_, r6.good.tok.stay fun b vb u h => ?_, fun p hp => ?_, r6.good.vol, r6.good.ntb⟩, r6.len, r6.fz, fun k dk q => ?_, r6.dis⟩
          · rw [upd_ne (ne_of_none h f4)]; exact r6.good.ex b o h
          · rw [upd_ne (fun z => n4 (by rw [← z]; exact .inl vb))]; exact h
          · obtain ⟨ps, h1, h2, h3⟩ := r6.good.tab p hp
            refine ⟨ps, by rw [upd_ne (fun z => n4 (by rw [← z]; exact .inr (List.mem_map.mpr ⟨p, hp, rfl⟩)))]; exact h1, h2, fun pos cv hc => ?_⟩
            obtain ⟨c, h4, h5⟩ := h3 pos cv hc
            refine ⟨c, h4, ?_⟩
            rw [upd_ne (fun z => by rw [z, d4] at h5; cases h5)]
            exact h5
          · obtain ⟨w, h1, h2⟩ := r6.ow k dk q
            refine ⟨w, h1, ?_⟩
            obtain ⟨l, rfl⟩ := h2.ref
            have ne : l ≠ Dl := fun z => by
              obtain ⟨w0, h3, h4⟩ := rel.ow k dk q
              rw [h1] at h3; cases h3
              obtain ⟨u, hu⟩ := h4.at
              rw [z, hD] at hu; cases hu
            cases dk with
            | lst ds =>
              obtain ⟨l', vs, ew, h3, h4, h5, h6⟩ := h2
              cases ew
              exact ⟨_, vs, rfl, by rw [upd_ne ne]; exact h3, h4, h5, h6⟩
            | dic ks ds =>
              obtain ⟨l', vs, ew, h3, h4, h5, h6, h7⟩ := h2
              cases ew
              exact ⟨_, vs, rfl, by rw [upd_ne ne]; exact h3, h4, h5, h6, h7⟩
            | dnt ks ds =>
              obtain ⟨l', es, ep, xs, ws', ew, h3, h4, h5, h6, h7, h8, h9, h10, h11, h12, h13⟩ := h2
              cases ew
              exact ⟨_, es, ep, xs, ws', rfl, by rw [upd_ne ne]; exact h3, h4, h5, h6, h7, h8, h9, h10, h11, h12, h13⟩
            | _ => exact h2.elim
        · have p6 := p4.tr p5
          exact ⟨p6.exf, fun b o h n t => by rw [upd_ne (ne_of_none h hD)]; exact p6.keep b o h n t, @p6.fz, p6.oax, p6.new, fun b o h t => by
            rw [upd_ne (ne_of_none h hD)]; exact p6.per b o h t⟩
        · rw [bnd_assoc] at a4
          simpa [List.append_assoc, bnd_ret] using a4
  · have e : i = ds.length := by omega
    subst e
    refine .inl ⟨yi.2 rfl, ?_⟩
    rw [List.drop_length] at a'
    exact fin done τ' ws H' Hf' oa' p' r'.good e1 e2 e3 e4 (by simpa [lcF, bnd_ret] using a')
theorem ev_lc {fi : En → M (List KF.D)} {t : Tg} {ft : Ft} {fe : Fe} {vs : List Nat} {Q : VK} {E0 : XK} (hs : ∀ k ∈ slotsT t, k ∈ vs) (h : Ev G E (RE G) (fLc fi t ft fe vs) σ H Q) : tLc (Ev G E (RI G) fi) (gT G.K t) (Ev G E0 RT ft) (Ev G E0 (RE G) fe) vs σ H Q := by
  obtain ⟨Hf, oa, ρ, τ, rel, a⟩ := h
  refine ⟨Hf, oa, ρ, τ, rel, a.bnd fun ds τ1 J H1 Hf1 oa1 _ p1 g1 y a1 => ?_⟩
  obtain ⟨hl, a2⟩ := a1.ite
  intro Dl hD
  refine lc_core' (rel.post p1 g1) y hl hs hD a2 fun ys τ' ws H' Hf' oa' p' g' e1 e2 e3 e4 a3 => ?_
  have ex : Ex Hf' (upd Hf' Dl (.lst ws)) := fun b o h => by rw [upd_ne (ne_of_none h e2)]; exact h
  refine a3 (.ref Dl) H' (upd Hf' Dl (.lst ws)) oa' ⟨p'.exf.tr ex, @p'.keep, fun b o h n t => ?_, p'.oax, p'.new, p'.per⟩ ⟨fun b o h => ?_, g'.tok, g'.tab, fun b v => ?_, fun a ps h => (by
    by_cases z : a = Dl
    · subst z; rw [upd_same] at h; cases h
    · rw [upd_ne z] at h; exact g'.ntb a ps h)⟩ (rp_lst.mpr ⟨Dl, ws, rfl, .inl upd_same, e4.mono ex .rfl'⟩)
  · rw [upd_ne (ne_of_none h hD)]; exact p'.fz b o h n t
  · by_cases z : b = Dl
    · subst z; rw [upd_same] at h; rw [e1]; exact h
    · rw [upd_ne z] at h; exact g'.ex b o h
  · rw [upd_ne (fun z => e3 (by rw [← z]; exact v))]; exact g'.vol b v
theorem ev_lcO {fi : En → M (List KF.D)} {t : Tg} {ft : Ft} {fe : Fe} {vs : List Nat} {Q : VK} {E0 : XK} (hs : ∀ k ∈ slotsT t, k ∈ vs) (h : EvO G E (fLc fi t ft fe vs) σ H Q) : tLc (Ev G E (RI G) fi) (gT G.K t) (Ev G E0 RT ft) (Ev G E0 (RE G) fe) vs σ H Q := by
  obtain ⟨Hf, oa, ρ, τ, rel, a⟩ := h
  refine ⟨Hf, oa, ρ, τ, rel, a.bnd fun ds τ1 J H1 Hf1 oa1 _ p1 g1 y a1 => ?_⟩
  obtain ⟨hl, a2⟩ := a1.ite
  intro Dl hD
  refine lc_core' (rel.post p1 g1) y hl hs hD a2 fun ys τ' ws H' Hf' oa' p' g' e1 e2 e3 e4 a3 => ?_
  exact a3 (.ref Dl) H' Hf' oa' p' g' ⟨⟨Dl, ws, rfl, e1, e2, e3, e4⟩, fun l e => by cases e; exact p1.old (.of hD)⟩
end

/-! ### defs -/
/-- the promise of a def: it does what m tells -/
def SpOf (G : GC) (m : List D → M D) (n : Nat) : Sp := fun vs H Q E => vs.length = n ∧ ∃ Hf oa ds τ, Good G Hf oa τ H ∧ RpA G oa Hf ds vs ∧ At G E (RE G) (m ds) Hf oa τ H Q
def outD : Out → M D
  | .next _ => M.ret .non
  | .ret d => M.ret d
  | _ => M.fail
/-- a body run at its arguments, in a frame of k slots -/
def runD (f : Fs) (k : Nat) (n : Nat) (ds : List D) : M D := M.bnd (f n (ds.map Sl.fz ++ List.replicate (k - ds.length) .un)) outD
theorem start_get {N : List Str} {vs : List V} {ds : List D} {G : GC} {oa : List (List Addr)} {Hf : Hp} (hr : RpA G oa Hf ds vs) (i : Nat) (d : D) (e : (ds.map Sl.fz ++ List.replicate (N.length - ds.length) .un)[i]? = some (.fz d)) : ∃ v, (L2.start N vs)[i]? = some (some v) ∧ Rp G oa Hf d v := by
  unfold L2.start
  have hl := hr.length
  by_cases h : i < ds.length
  · rw [List.getElem?_append_left (by simpa using h), List.getElem?_map] at e
    cases q : ds[i]? with
    | none => rw [q] at e; cases e
    | some d' =>
      rw [q] at e
      cases e
      obtain ⟨v, e1, e2⟩ := hr.get q
      exact ⟨v, by rw [List.getElem?_append_left (by simpa [hl] using h), List.getElem?_map, e1]; rfl, e2⟩
  · rw [List.getElem?_append_right (by simpa using h)] at e
    have := List.mem_of_getElem? e
    have := List.eq_of_mem_replicate this
    cases this
theorem start_un {N : List Str} {ds : List D} (i : Nat) (d : D) (e : (ds.map Sl.fz ++ List.replicate (N.length - ds.length) .un)[i]? = some (.ow d)) : False := by
  have h := List.mem_of_getElem? e
  rcases List.mem_append.mp h with h | h
  · obtain ⟨_, _, z⟩ := List.mem_map.mp h
    cases z
  · cases List.eq_of_mem_replicate h
/-- the body's reading at a def's entry -/
theorem body_start {G : GC} {E : XK} {N : List Str} {vs : List V} {ds : List D} {H Hf : Hp} {oa : List (List Addr)} {τ : Tau} {f : En → M Out} {Q : VK} (hn : vs.length ≤ N.length) (g : Good G Hf oa τ H) (hr : RpA G oa Hf ds vs)
    (a : At G E (RE G) (M.bnd (f (ds.map Sl.fz ++ List.replicate (N.length - ds.length) .un)) outD) Hf oa τ H Q) : tS G ⟨Hf, oa, H⟩ E f { nx := fun _ H' => Q .non H', rt := Q } (L2.start N vs) H := by
  have hl := hr.length
  refine ⟨Hf, oa, ds.map Sl.fz ++ List.replicate (N.length - ds.length) .un, τ, ⟨⟨g, by simp [L2.start, hl], fun i d e => start_get hr i d e, fun i d e => (start_un i d e).elim, fun i j d e _ h1 _ => (start_un i d h1).elim⟩, .rfl', fun i d l e _ => (start_un i d e).elim⟩, ?_⟩
  unfold At at a
  unfold AtS
  cases e : f (ds.map Sl.fz ++ List.replicate (N.length - ds.length) .un) τ with
  | ok o τ1 =>
    rw [bnd_ok e] at a
    cases o with
    | next ρ1 => exact fun σ' H' Hf' oa' e1 o1 r1 => a .non H' Hf' oa' r1.base r1.rel.good (rp_non.mpr rfl)
    | ret d => exact a
    | brk ρ1 => exact False.elim a
    | cont ρ1 => exact False.elim a
  | exc c τ1 => rw [bnd_exc e] at a; exact a
  | stuck => rw [bnd_stuck e] at a; exact a
end KF
set_option maxHeartbeats 4000000
/-! KF5: the operators on data. -/
namespace KF
open PySem PySem.Spec PyProof.Rows L2

/-! ### equality -/
mutual
def toPy : D → PyData
  | .non => .none
  | .bl b => .bool b
  | .int i => .int i
  | .str x => .str x
  | .tup l => .tuple (toPys l)
  | .lst l => .list (toPys l)
  | .dic _ _ => .none
  | .fn _ => .none
  | .obj _ => .none
  | .scr _ => .none
  | .exc _ => .none
  | .dnt _ _ => .none
def toPys : List D → List PyData
  | [] => []
  | d :: ds => toPy d :: toPys ds
end
def okd : Nat → D → Bool
  | _, .non => true
  | _, .bl _ => true
  | _, .int _ => true
  | _, .str x => PyData.strOk x
  | n + 1, .tup l => l.all (okd n)
  | n + 1, .lst l => l.all (okd n)
  | _, _ => false
theorem okd_tup {n : Nat} {l : List D} : okd (n + 1) (.tup l) = l.all (okd n) := rfl
theorem okd_lst {n : Nat} {l : List D} : okd (n + 1) (.lst l) = l.all (okd n) := rfl
theorem okd_lay : ∀ (n : Nat) (d : D), okd n d = true → (toPy d).canLay0 = true ∧ (toPy d).depth ≤ n := by
  intro n
  induction n with
  | zero =>
    intro d h
    cases d with
    | non => exact ⟨by rw [toPy]; rfl, by rw [toPy]; simp [PyData.depth]⟩
    | bl _ => exact ⟨by rw [toPy]; rfl, by rw [toPy]; simp [PyData.depth]⟩
    | int _ => exact ⟨by rw [toPy]; rfl, by rw [toPy]; simp [PyData.depth]⟩
    | str x => exact ⟨by rw [toPy]; have h : PyData.strOk x = true := h; simpa [PyData.canLay0] using h, by rw [toPy]; simp [PyData.depth]⟩
    | _ => cases h
  | succ n ih =>
    have all : ∀ l : List D, l.all (okd n) = true → PyData.canLayAll0 (toPys l) = true ∧ PyData.depthAll (toPys l) ≤ n := by
      intro l
      induction l with
      | nil => intro _; rw [toPys]; exact ⟨rfl, Nat.zero_le _⟩
      | cons d ds ihl =>
        intro h
        rw [List.all_cons, Bool.and_eq_true] at h
        obtain ⟨h1, h2⟩ := ih d h.1
        obtain ⟨h3, h4⟩ := ihl h.2
        rw [toPys]
        refine ⟨by simp [PyData.canLayAll0, h1, h3], ?_⟩
        simp only [PyData.depthAll]
        omega
    intro d h
    cases d with
    | non => exact ⟨by rw [toPy]; rfl, by rw [toPy]; simp [PyData.depth]⟩
    | bl _ => exact ⟨by rw [toPy]; rfl, by rw [toPy]; simp [PyData.depth]⟩
    | int _ => exact ⟨by rw [toPy]; rfl, by rw [toPy]; simp [PyData.depth]⟩
    | str x => exact ⟨by rw [toPy]; have h : PyData.strOk x = true := h; simpa [PyData.canLay0] using h, by rw [toPy]; simp [PyData.depth]⟩
    | tup l =>
      obtain ⟨h1, h2⟩ := all l h
      exact ⟨by rw [toPy]; simpa [PyData.canLay0] using h1, by rw [toPy]; simp only [PyData.depth]; omega⟩
    | lst l =>
      obtain ⟨h1, h2⟩ := all l h
      exact ⟨by rw [toPy]; simpa [PyData.canLay0] using h1, by rw [toPy]; simp only [PyData.depth]; omega⟩
    | _ => cases h
theorem okd_shaped {d : D} (h : okd 32 d = true) : SeqAt.shaped (toPy d) = true := by
  obtain ⟨h1, h2⟩ := okd_lay 32 d h
  unfold SeqAt.shaped
  rw [h1, Bool.true_and]
  exact decide_eq_true (by omega)
section
variable {G : GC} {oa : List (List Addr)} {Hf H : Hp}
theorem rp_dp (n : Nat) : ∀ {d : D} {v : V}, okd n d = true → Rp G oa H d v → Dp G.K H v (toPy d) := by
  induction n with
  | zero =>
    intro d v h r
    cases d with
    | non => rw [rp_non] at r; subst r; rw [toPy]; exact .non
    | bl b => rw [rp_bl] at r; subst r; rw [toPy]; exact .bl b
    | int i => rw [rp_int] at r; subst r; rw [toPy]; exact .int i
    | str x => rw [rp_str] at r; subst r; rw [toPy]; exact .str x
    | _ => cases h
  | succ n ih =>
    have all : ∀ (l : List D) (vs : List V), l.all (okd n) = true → RpA G oa H l vs → DpAll G.K H vs (toPys l) := by
      intro l
      induction l with
      | nil => intro vs _ r; rw [rpa_nil] at r; subst r; rw [toPys]; exact .nil
      | cons d ds ihl =>
        intro vs h r
        rw [List.all_cons, Bool.and_eq_true] at h
        obtain ⟨v, vr, rfl, r1, r2⟩ := rpa_cons.mp r
        rw [toPys]
        exact .cons (ih h.1 r1) (ihl vr h.2 r2)
    intro d v h r
    cases d with
    | non => rw [rp_non] at r; subst r; rw [toPy]; exact .non
    | bl b => rw [rp_bl] at r; subst r; rw [toPy]; exact .bl b
    | int i => rw [rp_int] at r; subst r; rw [toPy]; exact .int i
    | str x => rw [rp_str] at r; subst r; rw [toPy]; exact .str x
    | tup l => obtain ⟨a, xs, rfl, h1, h2⟩ := rp_tup.mp r; rw [toPy]; exact .tup h1 (all l xs h h2)
    | lst l => obtain ⟨a, xs, rfl, h1, h2⟩ := rp_lst.mp r; rw [toPy]; exact .lst (.inl h1) (all l xs h h2)
    | _ => cases h
theorem rpa_dp {n : Nat} : ∀ {l : List D} {vs : List V}, l.all (okd n) = true → RpA G oa H l vs → DpAll G.K H vs (toPys l)
  | [], _, _, r => by rw [rpa_nil] at r; subst r; rw [toPys]; exact .nil
  | d :: ds, _, h, r => by
    rw [List.all_cons, Bool.and_eq_true] at h
    obtain ⟨v, vr, rfl, r1, r2⟩ := rpa_cons.mp r
    rw [toPys]
    exact .cons (rp_dp n h.1 r1) (rpa_dp h.2 r2)
theorem bw_dp {d : D} {v : V} (ex : Ex Hf H) (h : okd 32 d = true) (r : Bw G oa Hf H d v) : Dp G.K H v (toPy d) := by
  rcases r with r | r
  · exact rp_dp 32 h (r.mono ex .rfl')
  · cases d with
    | lst l =>
      obtain ⟨a, vs, rfl, h1, h2, h3, h4⟩ := r
      rw [toPy]
      exact .lst (.of h1) (rpa_dp (n := 31) h (h4.mono ex .rfl'))
    | dic ks ds => cases h
    | dnt ks ds => cases h
    | _ => exact r.elim
end
def deq (a b : D) : Bool := PyData.eqv (toPy a) (toPy b)
def gEq (a b : D) : Option D := if okd 32 a = true ∧ okd 32 b = true then some (.bl (deq a b)) else none
def gNe (a b : D) : Option D := if okd 32 a = true ∧ okd 32 b = true then some (.bl (!deq a b)) else none
section
variable {G : GC}
theorem vr_eq : VR2 G (rEqD G.K) gEq := by
  intro x y d1 d2 d Hf H oa Q ex r1 r2 e k
  unfold gEq at e
  split at e
  · rename_i h
    cases e
    exact ⟨_, _, bw_dp ex h.1 r1, bw_dp ex h.2 r2, okd_shaped h.1, okd_shaped h.2, k _ Hf H (.rfl' ex) (rp_bl.mpr rfl)⟩
  · cases e
theorem vr_ne : VR2 G (rNeD G.K) gNe := by
  intro x y d1 d2 d Hf H oa Q ex r1 r2 e k
  unfold gNe at e
  split at e
  · rename_i h
    cases e
    exact ⟨_, _, bw_dp ex h.1 r1, bw_dp ex h.2 r2, okd_shaped h.1, okd_shaped h.2, k _ Hf H (.rfl' ex) (rp_bl.mpr rfl)⟩
  · cases e
/-! ### ints -/
def onI (f : Int → Int → D) : D → D → Option D
  | .int i, .int j => some (f i j)
  | _, _ => none
def onIc (c : Int → Int → Bool) (f : Int → Int → D) : D → D → Option D
  | .int i, .int j => if c i j = true then some (f i j) else none
  | _, _ => none
theorem bw_int {oa : List (List Addr)} {Hf H : Hp} {i : Int} {v : V} (r : Bw G oa Hf H (.int i) v) : v = .int i := by
  rcases r with r | r
  · exact rp_int.mp r
  · exact r.elim
theorem bw_bl {oa : List (List Addr)} {Hf H : Hp} {i : Bool} {v : V} (r : Bw G oa Hf H (.bl i) v) : v = .bl i := by
  rcases r with r | r
  · exact rp_bl.mp r
  · exact r.elim
theorem bw_str {oa : List (List Addr)} {Hf H : Hp} {i : Str} {v : V} (r : Bw G oa Hf H (.str i) v) : v = .str i := by
  rcases r with r | r
  · exact rp_str.mp r
  · exact r.elim
theorem bw_tup {oa : List (List Addr)} {Hf H : Hp} {l : List D} {v : V} (r : Bw G oa Hf H (.tup l) v) : ∃ a xs, v = .ref a ∧ SqT G.K Hf a xs ∧ RpA G oa Hf l xs := by
  rcases r with r | r
  · exact rp_tup.mp r
  · exact r.elim
theorem bw_lst {oa : List (List Addr)} {Hf H : Hp} {l : List D} {v : V} (ex : Ex Hf H) (r : Bw G oa Hf H (.lst l) v) : ∃ a xs, v = .ref a ∧ Rd H a (.lst xs) ∧ RpA G oa Hf l xs := by
  rcases r with r | r
  · obtain ⟨a, xs, e1, e2, e3⟩ := rp_lst.mp r
    exact ⟨a, xs, e1, ex.rd e2, e3⟩
  · obtain ⟨a, xs, e1, e2, e3, e4, e5⟩ := r
    exact ⟨a, xs, e1, .inl e2, e5⟩
theorem bw_non {oa : List (List Addr)} {Hf H : Hp} {v : V} (r : Bw G oa Hf H .non v) : v = .non := by
  rcases r with r | r
  · exact rp_non.mp r
  · exact r.elim
/-- a scalar -/
def isS : D → V → Bool
  | .int i, v => decide (v = .int i)
  | .bl b, v => decide (v = .bl b)
  | .non, v => decide (v = .non)
  | .str x, v => decide (v = .str x)
  | _, _ => false
theorem isS_rp {d : D} {v : V} (h : isS d v = true) (oa : List (List Addr)) (H : Hp) : Rp G oa H d v := by
  cases d with
  | int i => exact rp_int.mpr (of_decide_eq_true h)
  | bl i => exact rp_bl.mpr (of_decide_eq_true h)
  | non => exact rp_non.mpr (of_decide_eq_true h)
  | str i => exact rp_str.mpr (of_decide_eq_true h)
  | _ => cases h
theorem vr_I0 {g : Int → Int → V} {f : Int → Int → D} (hf : ∀ i j, isS (f i j) (g i j) = true) : VR2 G (rI0 g) (onI f) := by
  intro x y d1 d2 d Hf H oa Q ex r1 r2 e k
  cases d1 <;> try (cases e)
  rename_i i
  cases d2 <;> try (cases e)
  rename_i j
  exact ⟨i, j, bw_int r1, bw_int r2, k _ Hf H (.rfl' ex) (isS_rp (hf i j) _ _)⟩
theorem vr_I {C : Int → Int → Prop} {c : Int → Int → Bool} {g : Int → Int → V} {f : Int → Int → D} (hc : ∀ i j, c i j = true → C i j) (hf : ∀ i j, isS (f i j) (g i j) = true) : VR2 G (rI C g) (onIc c f) := by
  intro x y d1 d2 d Hf H oa Q ex r1 r2 e k
  cases d1 <;> try (cases e)
  rename_i i
  cases d2 <;> try (cases e)
  rename_i j
  have e : (if c i j = true then some (f i j) else none) = some d := e
  split at e
  · rename_i h
    cases e
    exact ⟨i, j, bw_int r1, bw_int r2, hc i j h, k _ Hf H (.rfl' ex) (isS_rp (hf i j) _ _)⟩
  · cases e
theorem VR2.or {r r' : R2} {g g' : D → D → Option D} (h : VR2 G r g) (h' : VR2 G r' g') : VR2 G (fun x y H Q => r x y H Q ∨ r' x y H Q) (fun a b => (g a b).or (g' a b)) := by
  intro x y d1 d2 d Hf H oa Q ex r1 r2 e k
  have e : (g d1 d2).or (g' d1 d2) = some d := e
  cases e1 : g d1 d2 with
  | some z =>
    rw [e1, Option.some_or] at e
    cases e
    exact .inl (h ex r1 r2 e1 k)
  | none =>
    rw [e1, Option.none_or] at e
    exact .inr (h' ex r1 r2 e k)
theorem VR2.to {r : R2} {g g' : D → D → Option D} (h : VR2 G r g) (e : ∀ a b d, g' a b = some d → g a b = some d) : VR2 G r g' := by
  intro x y d1 d2 d Hf H oa Q ex r1 r2 e' k
  exact h ex r1 r2 (e _ _ _ e') k
/-! ### +, * of tuples, lists, texts -/
def cT (a b : D) : Option D := match a, b with
  | .tup a, .tup b => if a.length + b.length ≤ SZ then some (.tup (a ++ b)) else none
  | _, _ => none
theorem vr_catT : VR2 G (rCatA G.K) cT := by
  intro x y d1 d2 d Hf H oa Q ex r1 r2 e k
  cases d1 <;> try (cases e)
  rename_i l1
  cases d2 <;> try (cases e)
  rename_i l2
  have e : (if l1.length + l2.length ≤ SZ then some (D.tup (l1 ++ l2)) else none) = some d := e
  split at e
  · rename_i hz
    cases e
    obtain ⟨a, xs, rfl, h1, h2⟩ := bw_tup r1
    obtain ⟨b, ys, rfl, h3, h4⟩ := bw_tup r2
    refine ⟨a, b, xs, ys, rfl, rfl, ex.t h1, ex.t h3, by rw [h2.length, h4.length]; exact sz_le hz, fun e => ?_, fun _ e => ?_, fun _ _ p hp => ?_⟩
    · subst e
      have : l1 = [] := List.eq_nil_of_length_eq_zero (by have := h2.length; simpa using this.symm)
      subst this
      exact k _ Hf H (.rfl' ex) (rp_tup.mpr ⟨b, ys, rfl, h3, h4⟩)
    · subst e
      have : l2 = [] := List.eq_nil_of_length_eq_zero (by have := h4.length; simpa using this.symm)
      subst this
      rw [List.append_nil] at k
      exact k _ Hf H (.rfl' ex) (rp_tup.mpr ⟨a, xs, rfl, h1, h2⟩)
    · have pu := Pure.new (o := .tup (xs ++ ys)) ex hp
      exact k _ _ _ pu (rp_tup.mpr ⟨p, _, rfl, .of upd_same, (h2.append h4).mono pu.exf .rfl'⟩)
  · cases e
/-! ### lists -/
section
variable {X : Cx}
theorem lst_at {pins : List (Addr × Obj)} {σ : L2.St} {H : Hp} {s : Shared} {a : Addr} {xs : List V} (I : Inv X pins σ H s) (h : Rd H a (.lst xs)) : xs.length ≤ sizeLine ∧ ∃ (its : List Value) (n : Nat), Vals xs its ∧ xs.length = its.length ∧ s.heap.get? a = some { cls := .type "list", data := .seq its.toArray n } := by
  obtain ⟨z, its, n, r, e⟩ := h.ok I.hok
  exact ⟨z, its, n, r, r.length, e⟩
def rCatL : R2 := fun x y H Q => ∃ l b xs zs, x = .ref l ∧ y = .ref b ∧ Rd H l (.lst xs) ∧ Rd H b (.lst zs) ∧ xs.length + zs.length ≤ sizeLine ∧ ∀ p, H p = none → Q (.ref p) (upd H p (.lst (xs ++ zs)))
theorem op_catL : OpR X (binaryOp .Add) rCatL := by
  intro pins s σ H x y v u Q I rx ry h
  obtain ⟨l, b, xs, zs, rfl, rfl, hH, hB, hz, q⟩ := h
  cases rx
  cases ry
  obtain ⟨z, its, n, r, hl, e⟩ := lst_at I hH
  obtain ⟨z2, its2, n2, r2, hl2, e2⟩ := lst_at I hB
  refine PySem.P.add_list e e2 ?_ (by rw [List.size_toArray, List.size_toArray]; omega)
  have ea : its.toArray ++ its2.toArray = (its ++ its2).toArray := by simp
  rw [ea]
  exact ⟨.ref _, _, I.lnew (t' := s.toks) (r.append r2) (by rw [List.length_append]; omega), rfl, q _ I.fresh⟩
end
def cL (a b : D) : Option D := match a, b with
  | .lst a, .lst b => if a.length + b.length ≤ SZ then some (.lst (a ++ b)) else none
  | _, _ => none
theorem vr_catL : VR2 G rCatL cL := by
  intro x y d1 d2 d Hf H oa Q ex r1 r2 e k
  cases d1 <;> try (cases e)
  rename_i l1
  cases d2 <;> try (cases e)
  rename_i l2
  have e : (if l1.length + l2.length ≤ SZ then some (D.lst (l1 ++ l2)) else none) = some d := e
  split at e
  · rename_i hz
    cases e
    obtain ⟨a, xs, rfl, h1, h2⟩ := bw_lst ex r1
    obtain ⟨b, ys, rfl, h3, h4⟩ := bw_lst ex r2
    refine ⟨a, b, xs, ys, rfl, rfl, h1, h3, by rw [h2.length, h4.length]; exact sz_le hz, fun p hp => ?_⟩
    have pu := Pure.new (o := .lst (xs ++ ys)) ex hp
    exact k _ _ _ pu (rp_lst.mpr ⟨p, _, rfl, .inl upd_same, (h2.append h4).mono pu.exf .rfl'⟩)
  · cases e
def cS (a b : D) : Option D := match a, b with
  | .str a, .str b => if a.length + b.length ≤ SZ then some (.str (a ++ b)) else none
  | _, _ => none
theorem vr_catS : VR2 G (fun x y H Q => ∃ i j, x = .str i ∧ y = .str j ∧ i.length + j.length ≤ sizeLine ∧ Q (.str (i ++ j)) H) cS := by
  intro x y d1 d2 d Hf H oa Q ex r1 r2 e k
  cases d1 <;> try (cases e)
  rename_i l1
  cases d2 <;> try (cases e)
  rename_i l2
  have e : (if l1.length + l2.length ≤ SZ then some (D.str (l1 ++ l2)) else none) = some d := e
  split at e
  · rename_i hz
    cases e
    exact ⟨l1, l2, bw_str r1, bw_str r2, sz_le hz, k _ Hf H (.rfl' ex) (rp_str.mpr rfl)⟩
  · cases e
/-- a + b -/
def gAdd : D → D → Option D := fun a b => (onI (fun i j => .int (i + j)) a b).or ((cT a b).or ((cL a b).or (cS a b)))
abbrev rAddA (K : PySem.W.Frag) : R2 := fun x y H Q => rI0 (fun i j => .int (i + j)) x y H Q ∨ (fun x y H Q => rCatA K x y H Q ∨ (fun x y H Q => rCatL x y H Q ∨ (fun x y H Q => ∃ i j, x = .str i ∧ y = .str j ∧ i.length + j.length ≤ sizeLine ∧ Q (.str (i ++ j)) H) x y H Q) x y H Q) x y H Q
theorem vr_add : VR2 G (rAddA G.K) gAdd := VR2.or (vr_I0 fun i j => by simp [isS]) (VR2.or vr_catT (VR2.or vr_catL vr_catS))
theorem op_addA {X : Cx} : OpR X (binaryOp .Add) (rAddA X.K) := OpR.or op_add (OpR.or op_catA (OpR.or op_catL op_add_str))
def gSub : D → D → Option D := onI fun i j => .int (i - j)
theorem vr_sub : VR2 G (rI0 fun i j => .int (i - j)) gSub := vr_I0 fun i j => by simp [isS]
/-! ### * -/
section
variable {X : Cx}
/-- t * k of any number -/
def rRepA (K : PySem.W.Frag) : R2 := fun x y H Q => ∃ l k xs, x = .ref l ∧ y = .int k ∧ SqT K H l xs ∧ -1000 ≤ k ∧ k ≤ 1000 ∧ xs.length ≤ 1000 ∧
  ((xs = [] ∨ k = 1) → Q (.ref l) H) ∧ (xs ≠ [] → k ≠ 1 → ∀ p, H p = none → Q (.ref p) (upd H p (.tup (List.replicate k.toNat xs).flatten)))
end
end
end KF
set_option maxHeartbeats 4000000
namespace KF
open PySem PySem.Spec PyProof.Rows L2
open AutoSeq1 (wpAny_loadPart')
open MeetsSeq MeetsSeq2 MeetsSeq3 SeqRoads2
theorem tuple_mul0 (l : Addr) (items : Array Value) (n : Nat) (dd : Option Addr) (sl : Array (Option Value)) (x : Int) (u : Tok) (c0 : (decide (x < -(2 ^ 63)) || decide (x ≥ 2 ^ 63)) = false) (c1 : (items.isEmpty || x == 1) = false) (c2 : (decide (x ≤ 0) || items.isEmpty) = true) :
    Meets (Builtin.«tuple.__mul__» ⟨[.ref l, .int x u], []⟩) (fun _ R s => s.heap.get? l = some { cls := .type "tuple", dict := dd, data := .seq items n, slots := sl } ∧
      R (.ok (.ret (Value.ref s.heap.objs.size))) { s with heap := s.heap.push { cls := Value.type "tuple", data := Data.seq #[] }, toks := s.toks }) :=
  .of_wp fun prog w A R s h => by
    obtain ⟨hp, g, d, tk, os⟩ := s
    obtain ⟨hl, h⟩ := h
    have f1 := AutoSeq1.idx_int
    wp_walk using wpAny_loadPart' hl
    repeat (first
      | (refine wpAny_ite_false (decide_eq_false (by rw [c0]; exact Bool.false_ne_true)) ?_; wp_walk using wpAny_loadPart' hl)
      | (refine wpAny_ite_false (decide_eq_false (by rw [c1]; exact Bool.false_ne_true)) ?_; wp_walk using wpAny_loadPart' hl)
      | (refine wpAny_ite_true (decide_eq_true (by rw [c2])) ?_; wp_walk using wpAny_loadPart' hl))
    exact ⟨_, rfl, h⟩
theorem tuple_mul1 (l : Addr) (items : Array Value) (n : Nat) (dd : Option Addr) (sl : Array (Option Value)) (x : Int) (u : Tok) (c0 : (decide (x < -(2 ^ 63)) || decide (x ≥ 2 ^ 63)) = false) (c1 : (items.isEmpty || x == 1) = true) :
    Meets (Builtin.«tuple.__mul__» ⟨[.ref l, .int x u], []⟩) (fun _ R s => s.heap.get? l = some { cls := .type "tuple", dict := dd, data := .seq items n, slots := sl } ∧
      R (.ok (.ret (Value.ref l))) s) :=
  .of_wp fun prog w A R s h => by
    obtain ⟨hp, g, d, tk, os⟩ := s
    obtain ⟨hl, h⟩ := h
    have f1 := AutoSeq1.idx_int
    wp_walk using wpAny_loadPart' hl
    repeat (first
      | (refine wpAny_ite_false (decide_eq_false (by rw [c0]; exact Bool.false_ne_true)) ?_; wp_walk using wpAny_loadPart' hl)
      | (refine wpAny_ite_true (decide_eq_true (by rw [c1])) ?_; wp_walk using wpAny_loadPart' hl))
    exact ⟨_, rfl, h⟩
/-! ### * -/
section
variable {X : Cx}
theorem op_repA : OpR X (binaryOp .Mult) (rRepA X.K) := by
  intro pins s σ H x y v u Q I rx ry h
  obtain ⟨l, k, xs, rfl, rfl, hT, h1, h2, hz, q1, q2⟩ := h
  by_cases hb : xs ≠ [] ∧ 2 ≤ k
  · exact op_repT pins s σ H _ _ v u Q I rx ry ⟨l, k, xs, rfl, rfl, hT, hb.1, hb.2, h2, hz, q2 hb.1 (by omega)⟩
  cases rx
  obtain ⟨t, rfl⟩ := ry
  obtain ⟨its, r, ⟨⟨cls, dd, data, sl⟩, ho, hc, n, hd⟩, hs⟩ := I.tuple hT
  simp only at hc hd
  subst hc hd
  have hle : its.length = xs.length := r.length.symm
  have c0 : (decide (k < -(2 ^ 63)) || decide (k ≥ 2 ^ 63)) = false := by
    rw [decide_eq_false (by omega), decide_eq_false (by omega)] <;> rfl
  by_cases hc : xs = [] ∨ k = 1
  · have c1 : (its.toArray.isEmpty || k == 1) = true := by
      rcases hc with e | e
      · have : its = [] := List.eq_nil_of_length_eq_zero (by rw [hle, e]; rfl)
        subst this
        rfl
      · subst e
        simp
    refine wpAny_binaryOp_repeat_ref (T := "tuple") (U := "int") (by decide) ⟨_, ho, rfl⟩ (fun s' => typeIs_int s' k t) noFill_tuple_mul F.fills_int_mul F.slot_int_rmul repeat_tuple F.slot_int_index.lookup
      (call_meets F.slot_int_rmul (typeIs_int s k t) F.entry_int_rmul (F.args_int_rmul_2 _ _) (int_rmul_tuple k t l its.toArray n dd sl)
        ⟨ho, rfl, ⟨_, ho, rfl⟩, call_meets F.slot_tuple_mul ⟨_, ho, rfl⟩ F.entry_tuple_mul (F.args_tuple_mul_2 _ _) (tuple_mul1 l its.toArray n dd sl k t c0 c1) ⟨ho, ?_⟩⟩)
    exact ⟨.ref l, H, I, rfl, q1 hc⟩
  · have hne : xs ≠ [] := fun e => hc (.inl e)
    have hk : k ≤ 0 := by
      by_cases z : k ≤ 0
      · exact z
      · exfalso
        exact hb ⟨hne, by have := fun e => hc (.inr e); omega⟩
    have hi : its.toArray.isEmpty = false := by
      cases its with
      | nil => exact absurd (List.eq_nil_of_length_eq_zero hle.symm) hne
      | cons a b => rfl
    have c1 : (its.toArray.isEmpty || k == 1) = false := by
      rw [hi, Bool.false_or]
      exact beq_eq_false_iff_ne.mpr (by omega)
    have c2 : (decide (k ≤ 0) || its.toArray.isEmpty) = true := by
      rw [decide_eq_true hk]
      rfl
    have ek : k.toNat = 0 := by omega
    have q := q2 hne (by omega)
    rw [ek] at q
    refine wpAny_binaryOp_repeat_ref (T := "tuple") (U := "int") (by decide) ⟨_, ho, rfl⟩ (fun s' => typeIs_int s' k t) noFill_tuple_mul F.fills_int_mul F.slot_int_rmul repeat_tuple F.slot_int_index.lookup
      (call_meets F.slot_int_rmul (typeIs_int s k t) F.entry_int_rmul (F.args_int_rmul_2 _ _) (int_rmul_tuple k t l its.toArray n dd sl)
        ⟨ho, rfl, ⟨_, ho, rfl⟩, call_meets F.slot_tuple_mul ⟨_, ho, rfl⟩ F.entry_tuple_mul (F.args_tuple_mul_2 _ _) (tuple_mul0 l its.toArray n dd sl k t c0 c1 c2) ⟨ho, ?_⟩⟩)
    refine ⟨.ref s.heap.objs.size, _, I.laid (t' := s.toks) (o := .tup []) (fun b ob q => Heap.get?_push_of_some _ q) (Nat.le_refl _) ?_, rfl, q _ (I.hok.fresh (Nat.le_refl _))⟩
    exact ⟨Nat.zero_le _, [], .nil, IsTup.new _ _⟩
def rRepL : R2 := fun x y H Q => ∃ l k xs, x = .ref l ∧ y = .int k ∧ Rd H l (.lst xs) ∧ -(2 ^ 63) ≤ k ∧ k < 2 ^ 63 ∧ xs.length * k.toNat ≤ sizeLine ∧
  ∀ p, H p = none → Q (.ref p) (upd H p (.lst (List.replicate k.toNat xs).flatten))
theorem op_repL : OpR X (binaryOp .Mult) rRepL := by
  intro pins s σ H x y v u Q I rx ry h
  obtain ⟨l, k, xs, rfl, rfl, hH, h1, h2, hz, q⟩ := h
  cases rx
  obtain ⟨t, rfl⟩ := ry
  obtain ⟨z, its, n, r, hl, e⟩ := lst_at I hH
  have hlen : its.toArray.size * k.toNat ≤ sizeLine := by rw [List.size_toArray, ← hl]; exact hz
  have hcap : ¬ its.toArray.size * k.toNat > (2 ^ 63 - 1) / 8 := by
    have : (sizeLine : Nat) ≤ (2 ^ 63 - 1) / 8 := by decide
    omega
  have hfit : ¬ (!Builtin.List.listFitsIndex k) = true := by
    rw [fitsIndex_both h1 h2]
    exact Bool.false_ne_true
  have hlong : ¬ Builtin.List.listTooLong (its.toArray.size * k.toNat) = true := by
    rw [notLongL hlen]
    exact Bool.false_ne_true
  have hnew : List.foldl (fun x1 x2 => x1 ++ x2) #[] (List.replicate (if its.toArray.isEmpty = true then 0 else k.toNat) its.toArray) = (List.replicate k.toNat its).flatten.toArray := by
    rw [size_rep]
    cases its with
    | nil => simp
    | cons a r' => rw [if_neg (by simp)]
  refine wpAny_binaryOp_repeat_ref (T := "list") (U := "int") (by decide) ⟨_, e, rfl⟩ (fun s' => typeIs_int s' k t) noFill_list_mul F.fills_int_mul F.slot_int_rmul repeat_list F.slot_int_index.lookup
    (call_meets F.slot_int_rmul (typeIs_int s k t) F.entry_int_rmul (F.args_int_rmul_2 _ _) (int___rmul___int_list k t l its.toArray n)
      ⟨e, rfl, ⟨_, e, rfl⟩, call_meets F.slot_list_mul ⟨_, e, rfl⟩ F.entry_list_mul (F.args_list_mul_2 _ _) (AutoListH.list___mul___list_int_3 l its.toArray n k t hfit hcap hlong) ⟨e, ?_⟩⟩)
  rw [hnew]
  exact ⟨.ref _, _, I.lnew (t' := s.toks) (r.rep k.toNat) (by rw [PyProof.Rows.lm_len_rep_flat, Nat.mul_comm]; exact hz), rfl, q _ I.fresh⟩
end
section
variable {G : GC}
def mT (a b : D) : Option D := match a, b with
  | .tup a, .int k => if a.length ≤ 1000 ∧ -1000 ≤ k ∧ k ≤ 1000 then some (.tup (List.replicate k.toNat a).flatten) else none
  | _, _ => none
theorem vr_repT : VR2 G (rRepA G.K) mT := by
  intro x y d1 d2 d Hf H oa Q ex r1 r2 e k
  cases d1 <;> try (cases e)
  rename_i l1
  cases d2 <;> try (cases e)
  rename_i j
  have e : (if l1.length ≤ 1000 ∧ -1000 ≤ j ∧ j ≤ 1000 then some (D.tup (List.replicate j.toNat l1).flatten) else none) = some d := e
  split at e
  · rename_i hz
    cases e
    obtain ⟨a, xs, rfl, h1, h2⟩ := bw_tup r1
    have hl := h2.length
    refine ⟨a, j, xs, rfl, bw_int r2, ex.t h1, hz.2.1, hz.2.2, by omega, fun c => ?_, fun _ _ p hp => ?_⟩
    · refine k _ Hf H (.rfl' ex) (rp_tup.mpr ⟨a, xs, rfl, h1, ?_⟩)
      rcases c with c | c
      · subst c
        have : l1 = [] := List.eq_nil_of_length_eq_zero (by simpa using hl.symm)
        subst this
        rw [show (List.replicate j.toNat ([] : List D)).flatten = [] by simp]
        exact rpa_nil.mpr rfl
      · subst c
        rw [show (List.replicate (1 : Int).toNat l1).flatten = l1 by simp]
        exact h2
    · have pu := Pure.new (o := .tup (List.replicate j.toNat xs).flatten) ex hp
      exact k _ _ _ pu (rp_tup.mpr ⟨p, _, rfl, .of upd_same, (h2.rep j.toNat).mono pu.exf .rfl'⟩)
  · cases e
def mL (a b : D) : Option D := match a, b with
  | .lst a, .int k => if a.length ≤ 1000 ∧ -1000 ≤ k ∧ k ≤ 1000 then some (.lst (List.replicate k.toNat a).flatten) else none
  | _, _ => none
theorem vr_repL : VR2 G rRepL mL := by
  intro x y d1 d2 d Hf H oa Q ex r1 r2 e k
  cases d1 <;> try (cases e)
  rename_i l1
  cases d2 <;> try (cases e)
  rename_i j
  have e : (if l1.length ≤ 1000 ∧ -1000 ≤ j ∧ j ≤ 1000 then some (D.lst (List.replicate j.toNat l1).flatten) else none) = some d := e
  split at e
  · rename_i hz
    cases e
    obtain ⟨a, xs, rfl, h1, h2⟩ := bw_lst ex r1
    have hl := h2.length
    refine ⟨a, j, xs, rfl, bw_int r2, h1, by omega, by omega, ?_, fun p hp => ?_⟩
    · rw [sizeLine_eq]
      have : xs.length * j.toNat ≤ 1000 * 1000 := Nat.mul_le_mul (by omega) (by omega)
      omega
    · have pu := Pure.new (o := .lst (List.replicate j.toNat xs).flatten) ex hp
      exact k _ _ _ pu (rp_lst.mpr ⟨p, _, rfl, .inl upd_same, (h2.rep j.toNat).mono pu.exf .rfl'⟩)
  · cases e
def cMulB (i j : Int) : Bool := (decide (-(2 ^ 64) < i) && decide (i < 2 ^ 64)) || (decide (-(2 ^ 64) < j) && decide (j < 2 ^ 64))
def gMul : D → D → Option D := fun a b => (onIc cMulB (fun i j => .int (i * j)) a b).or ((mT a b).or (mL a b))
abbrev rMulA (K : PySem.W.Frag) : R2 := fun x y H Q => rI CMul (fun i j => .int (i * j)) x y H Q ∨ (fun x y H Q => rRepA K x y H Q ∨ rRepL x y H Q) x y H Q
theorem vr_mul : VR2 G (rMulA G.K) gMul := VR2.or (vr_I (fun i j h => by
  unfold cMulB at h
  simp only [Bool.or_eq_true, Bool.and_eq_true, decide_eq_true_eq] at h
  exact h) fun i j => by simp [isS]) (VR2.or vr_repT vr_repL)
theorem op_mulA {X : Cx} : OpR X (binaryOp .Mult) (rMulA X.K) := OpR.or op_mul (OpR.or op_repA op_repL)
def gDiv : D → D → Option D := onIc (fun _ j => decide (0 < j) && decide (j < 1073741824)) fun i j => .int (i / j)
theorem vr_div : VR2 G (rI CDiv fun i j => .int (i / j)) gDiv := vr_I (fun i j h => by simpa [CDiv] using h) fun i j => by simp [isS]
def gMod : D → D → Option D := onIc (fun _ j => decide (0 < j)) fun i j => .int (i % j)
theorem vr_mod : VR2 G (rI (fun _ j => 0 < j) fun i j => .int (i % j)) gMod := vr_I (fun i j h => by simpa using h) fun i j => by simp [isS]
def gPow : D → D → Option D := onIc (fun i j => decide (0 ≤ j) && decide (j ≤ 1000000) && decide (i.natAbs < 2 ^ 64)) fun i j => .int (i ^ j.toNat)
theorem vr_pow : VR2 G (rI CPow fun i j => .int (i ^ j.toNat)) gPow := vr_I (fun i j h => by
  simp only [Bool.and_eq_true, decide_eq_true_eq] at h
  exact ⟨h.1.1, h.1.2, h.2⟩) fun i j => by simp [isS]
/-! ### order -/
def gLt : D → D → Option D := onI fun i j => .bl (decide (i < j))
def gLe : D → D → Option D := onI fun i j => .bl (decide (i ≤ j))
def gGtI : D → D → Option D := onI fun i j => .bl (decide (j < i))
def gGe : D → D → Option D := onI fun i j => .bl (decide (j ≤ i))
theorem vr_lt : VR2 G (rI0 fun i j => .bl (decide (i < j))) gLt := vr_I0 fun i j => by simp [isS]
theorem vr_le : VR2 G (rI0 fun i j => .bl (decide (i ≤ j))) gLe := vr_I0 fun i j => by simp [isS]
theorem vr_gtI : VR2 G (rI0 fun i j => .bl (decide (j < i))) gGtI := vr_I0 fun i j => by simp [isS]
theorem vr_ge : VR2 G (rI0 fun i j => .bl (decide (j ≤ i))) gGe := vr_I0 fun i j => by simp [isS]
/-! ### in, is -/
def flatD : D → Bool
  | .non => true
  | .bl _ => true
  | .int _ => true
  | .str _ => true
  | _ => false
theorem flat_eq {oa : List (List Addr)} {H : Hp} {d e : D} {v w : V} (h1 : flatD d = true) (h2 : flatD e = true) (r1 : Rp G oa H d v) (r2 : Rp G oa H e w) : eqV v w = deq d e ∧ flatV v = true := by
  cases d <;> try (cases h1)
  all_goals (cases e <;> try (cases h2))
  all_goals (simp only [rp_non, rp_bl, rp_int, rp_str] at r1 r2; subst r1; subst r2; unfold deq; simp only [toPy, eqV, flatV, PyData.eqv, and_true])
theorem flat_any {oa : List (List Addr)} {H : Hp} {e : D} {w : V} (h2 : flatD e = true) (r2 : Rp G oa H e w) : ∀ {l : List D} {vs : List V}, l.all flatD = true → RpA G oa H l vs → inV w vs = l.any (fun y => deq y e) ∧ vs.all flatV = true
  | [], _, _, r => by rw [rpa_nil] at r; subst r; exact ⟨rfl, rfl⟩
  | d :: ds, _, h, r => by
    rw [List.all_cons, Bool.and_eq_true] at h
    obtain ⟨v, vr, rfl, r1, r3⟩ := rpa_cons.mp r
    obtain ⟨e1, e2⟩ := flat_eq h.1 h2 r1 r2
    obtain ⟨e3, e4⟩ := flat_any h2 r2 h.2 r3
    unfold inV at e3 ⊢
    rw [List.any_cons, List.any_cons, e1, e3, List.all_cons, e2, e4]
    exact ⟨rfl, rfl⟩
def items0 : D → Option (List D)
  | .tup l => some l
  | .lst l => some l
  | _ => none
def gInF (neg : Bool) (a b : D) : Option D := (items0 b).bind fun l => if flatD a = true ∧ l.all flatD = true then some (.bl (if neg then !l.any (fun y => deq y a) else l.any (fun y => deq y a))) else none
theorem bw_flat {oa : List (List Addr)} {Hf H : Hp} {d : D} {v : V} (h : flatD d = true) (r : Bw G oa Hf H d v) : Rp G oa Hf d v := by
  rcases r with r | r
  · exact r
  · cases d <;> first | exact r.elim | cases h
theorem vr_inF {neg : Bool} : VR2 G (rIn G.K neg) (gInF neg) := by
  intro x y d1 d2 d Hf H oa Q ex r1 r2 e k
  unfold gInF at e
  cases d2 <;> try (cases e)
  all_goals
    rename_i l
    simp only [items0, Option.bind_some] at e
    split at e
    · rename_i h
      cases e
      have q1 := bw_flat h.1 r1
      first
        | (obtain ⟨a, xs, rfl, h1, h2⟩ := bw_tup r2
           obtain ⟨e1, e2⟩ := flat_any h.1 q1 h.2 h2
           refine ⟨a, xs, rfl, .inr (ex.t h1), ?_, e2, ?_⟩
           · exact (flat_eq h.1 h.1 q1 q1).2
           · rw [e1]; exact k _ Hf H (.rfl' ex) (rp_bl.mpr rfl))
        | (obtain ⟨a, xs, rfl, h1, h2⟩ := bw_lst ex r2
           obtain ⟨e1, e2⟩ := flat_any h.1 q1 h.2 h2
           refine ⟨a, xs, rfl, .inl (.inl h1), ?_, e2, ?_⟩
           · exact (flat_eq h.1 h.1 q1 q1).2
           · rw [e1]; exact k _ Hf H (.rfl' ex) (rp_bl.mpr rfl))
    · cases e
theorem toPys_any (d : D) : ∀ l : List D, (toPys l).any (fun z => PyData.eqv z (toPy d)) = l.any fun z => deq z d
  | [] => by rw [toPys]; rfl
  | x :: xs => by rw [toPys, List.any_cons, List.any_cons, toPys_any d xs]; rfl
def gInD (neg : Bool) (a b : D) : Option D := match b with
  | .lst l => if okd 32 a = true ∧ okd 32 (.lst l) = true then some (.bl (if neg then !l.any (fun z => deq z a) else l.any fun z => deq z a)) else none
  | _ => none
theorem vr_inD : VR2 G (rInD G.K) (gInD false) := by
  intro x y d1 d2 d Hf H oa Q ex r1 r2 e k
  cases d2 <;> try (cases e)
  rename_i l
  have e : (if okd 32 d1 = true ∧ okd 32 (.lst l) = true then some (D.bl (l.any fun z => deq z d1)) else none) = some d := e
  split at e
  · rename_i h
    cases e
    have h2 := bw_dp ex h.2 r2
    have h3 := okd_shaped h.2
    rw [toPy] at h2 h3
    exact ⟨_, _, bw_dp ex h.1 r1, h2, okd_shaped h.1, h3, by rw [toPys_any]; exact k _ Hf H (.rfl' ex) (rp_bl.mpr rfl)⟩
  · cases e
theorem vr_notInD : VR2 G (rNotInD G.K) (gInD true) := by
  intro x y d1 d2 d Hf H oa Q ex r1 r2 e k
  cases d2 <;> try (cases e)
  rename_i l
  have e : (if okd 32 d1 = true ∧ okd 32 (.lst l) = true then some (D.bl (!l.any fun z => deq z d1)) else none) = some d := e
  split at e
  · rename_i h
    cases e
    have h2 := bw_dp ex h.2 r2
    have h3 := okd_shaped h.2
    rw [toPy] at h2 h3
    exact ⟨_, _, bw_dp ex h.1 r1, h2, okd_shaped h.1, h3, by rw [toPys_any]; exact k _ Hf H (.rfl' ex) (rp_bl.mpr rfl)⟩
  · cases e
def gInS (neg : Bool) (a b : D) : Option D := match a, b with
  | .str x, .str y => some (.bl (if neg then !(!(Builtin.Str.occurrences y x 0 y.length 1).isEmpty) else !(Builtin.Str.occurrences y x 0 y.length 1).isEmpty))
  | _, _ => none
theorem vr_inS : VR2 G (fun x y H Q => ∃ i j, x = .str i ∧ y = .str j ∧ Q (.bl (!(Builtin.Str.occurrences j i 0 j.length 1).isEmpty)) H) (gInS false) := by
  intro x y d1 d2 d Hf H oa Q ex r1 r2 e k
  cases d1 <;> try (cases e)
  cases d2 <;> try (cases e)
  exact ⟨_, _, bw_str r1, bw_str r2, k _ Hf H (.rfl' ex) (rp_bl.mpr rfl)⟩
def gIn : D → D → Option D := fun a b => (gInF false a b).or ((gInD false a b).or (gInS false a b))
def gNotIn : D → D → Option D := fun a b => (gInF true a b).or (gInD true a b)
abbrev rInA (K : PySem.W.Frag) : R2 := fun x y H Q => rIn K false x y H Q ∨ (fun x y H Q => rInD K x y H Q ∨ (fun x y H Q => ∃ i j, x = .str i ∧ y = .str j ∧ Q (.bl (!(Builtin.Str.occurrences j i 0 j.length 1).isEmpty)) H) x y H Q) x y H Q
abbrev rNotInA (K : PySem.W.Frag) : R2 := fun x y H Q => rIn K true x y H Q ∨ rNotInD K x y H Q
theorem vr_in : VR2 G (rInA G.K) gIn := VR2.or vr_inF (VR2.or vr_inD vr_inS)
theorem vr_notIn : VR2 G (rNotInA G.K) gNotIn := VR2.or vr_inF vr_notInD
theorem op_inA {X : Cx} (hu : X.A.units + 65 < cLine) : OpR X (compareOp .In) (rInA X.K) := OpR.or op_in_seq (OpR.or (op_inD hu) op_in_str)
theorem op_notInA {X : Cx} (hu : X.A.units + 65 < cLine) : OpR X (compareOp .NotIn) (rNotInA X.K) := OpR.or op_notIn_seq (op_notInD hu)
/-- is None, is of bools -/
def isNon : D → Bool
  | .non => true
  | _ => false
def gIs (a b : D) : Option D := match b with
  | .non => some (.bl (isNon a))
  | _ => none
def gIsNot (a b : D) : Option D := match b with
  | .non => some (.bl (!isNon a))
  | _ => none
theorem bw_isNon {oa : List (List Addr)} {Hf H : Hp} {d : D} {v : V} (ex : Ex Hf H) (r : Bw G oa Hf H d v) : decide (v = .non) = isNon d := by
  cases d with
  | non => rw [bw_non r]; rfl
  | bl b => rw [bw_bl r]; rfl
  | int b => rw [bw_int r]; rfl
  | str b => rw [bw_str r]; rfl
  | tup l => obtain ⟨a, xs, rfl, _⟩ := bw_tup r; rfl
  | lst l => obtain ⟨a, xs, rfl, _⟩ := bw_lst ex r; rfl
  | dic ks l =>
    rcases r with r | r
    · obtain ⟨a, o, es, rfl, _⟩ := rp_dic.mp r; rfl
    · obtain ⟨a, es, rfl, _⟩ := r; rfl
  | fn f =>
    rcases r with r | r
    · obtain ⟨a, rfl, _⟩ := rp_fn.mp r; rfl
    · exact r.elim
  | obj f =>
    rcases r with r | r
    · obtain ⟨a, r, rfl, _⟩ := rp_obj.mp r; rfl
    · exact r.elim
  | scr f =>
    rcases r with r | r
    · obtain ⟨a, rfl, _⟩ := rp_scr.mp r; rfl
    · exact r.elim
  | exc f =>
    rcases r with r | r
    · obtain ⟨a, C, rfl, _⟩ := rp_exc.mp r; rfl
    · exact r.elim
  | dnt ks l =>
    rcases r with r | r
    · obtain ⟨a, _, _, _, _, rfl, _⟩ := rp_dnt.mp r; rfl
    · obtain ⟨a, _, _, _, _, rfl, _⟩ := r; rfl
theorem vr_is : VR2 G (fun x y H Q => y = .non ∧ Q (.bl (decide (x = .non))) H) gIs := by
  intro x y d1 d2 d Hf H oa Q ex r1 r2 e k
  cases d2 <;> cases e
  exact ⟨bw_non r2, by rw [bw_isNon ex r1]; exact k _ Hf H (.rfl' ex) (rp_bl.mpr rfl)⟩
theorem vr_isNot : VR2 G (fun x y H Q => y = .non ∧ Q (.bl (!decide (x = .non))) H) gIsNot := by
  intro x y d1 d2 d Hf H oa Q ex r1 r2 e k
  cases d2 <;> cases e
  exact ⟨bw_non r2, by rw [bw_isNon ex r1]; exact k _ Hf H (.rfl' ex) (rp_bl.mpr rfl)⟩
def gNeg : D → Option D
  | .int i => some (.int (-i))
  | _ => none
theorem vr_neg : VR1 G (rU fun i => .int (-i)) gNeg := by
  intro x d1 d Hf H oa Q ex r1 e k
  cases d1 <;> cases e
  exact ⟨_, bw_int r1, k _ Hf H (.rfl' ex) (rp_int.mpr rfl)⟩
end
end KF
set_option maxHeartbeats 4000000
/-! KF7: calls of built-ins, places, slices, what is walked. -/
namespace KF
open PySem PySem.Spec PyProof.Rows L2
section
variable {G : GC}
theorem bwa_one {oa : List (List Addr)} {Hf H : Hp} {d : D} {vs : List V} (h : BwA G oa Hf H [d] vs) : ∃ v, vs = [v] ∧ Bw G oa Hf H d v := by
  obtain ⟨v, r, rfl, h1, h2⟩ := h
  have h2 : r = [] := h2
  subst h2
  exact ⟨v, rfl, h1⟩
theorem bwa_two {oa : List (List Addr)} {Hf H : Hp} {d e : D} {vs : List V} (h : BwA G oa Hf H [d, e] vs) : ∃ v w, vs = [v, w] ∧ Bw G oa Hf H d v ∧ Bw G oa Hf H e w := by
  obtain ⟨v, r, rfl, h1, h2⟩ := h
  obtain ⟨w, rfl, h3⟩ := bwa_one h2
  exact ⟨v, w, rfl, h1, h3⟩
def on1 (f : D → Option D) : List D → Option D
  | [d] => f d
  | _ => none
def on2 (f : D → D → Option D) : List D → Option D
  | [d, e] => f d e
  | _ => none
theorem vra_1 {r : List V → Hp → VK → Prop} {f : D → Option D} (h : ∀ {x : V} {d1 d : D} {Hf H : Hp} {oa : List (List Addr)} {Q : VK}, Ex Hf H → Bw G oa Hf H d1 x → f d1 = some d → (∀ v Hf' H', Pure Hf H Hf' H' → Rp G oa Hf' d v → Q v H') → r [x] H Q) : VRA G r (on1 f) := by
  refine ⟨?_⟩
  intro xs ds d Hf H oa Q ex b e k
  match ds, e with
  | [d1], e =>
    obtain ⟨v, rfl, h1⟩ := bwa_one b
    exact h ex h1 e k
theorem vra_2 {r : List V → Hp → VK → Prop} {f : D → D → Option D} (h : ∀ {x y : V} {d1 d2 d : D} {Hf H : Hp} {oa : List (List Addr)} {Q : VK}, Ex Hf H → Bw G oa Hf H d1 x → Bw G oa Hf H d2 y → f d1 d2 = some d → (∀ v Hf' H', Pure Hf H Hf' H' → Rp G oa Hf' d v → Q v H') → r [x, y] H Q) : VRA G r (on2 f) := by
  refine ⟨?_⟩
  intro xs ds d Hf H oa Q ex b e k
  match ds, e with
  | [d1, d2], e =>
    obtain ⟨v, w, rfl, h1, h2⟩ := bwa_two b
    exact h ex h1 h2 e k
theorem VRA.or {r r' : List V → Hp → VK → Prop} {g g' : List D → Option D} (h : VRA G r g) (h' : VRA G r' g') : VRA G (fun x H Q => r x H Q ∨ r' x H Q) (fun a => (g a).or (g' a)) := by
  refine ⟨?_⟩
  intro xs ds d Hf H oa Q ex b e k
  have e : (g ds).or (g' ds) = some d := e
  cases e1 : g ds with
  | some z =>
    rw [e1, Option.some_or] at e
    cases e
    exact .inl (h.run ex b e1 k)
  | none =>
    rw [e1, Option.none_or] at e
    exact .inr (h'.run ex b e k)
/-! len -/
def itemsD : D → Option (List D)
  | .tup l => some l
  | .lst l => some l
  | .scr l => some (l.map .int)
  | _ => none
def lenS (d : D) : Option D := (itemsD d).map fun l => .int l.length
def lenX : D → Option D
  | .str x => if x.length ≤ SZ then some (.int x.length) else none
  | _ => none
def gLen : List D → Option D := fun a => (on1 lenS a).or (on1 lenX a)
abbrev rLenA (K : PySem.W.Frag) : List V → Hp → VK → Prop := fun x H Q => (fun xs H Q => ∃ p ys, xs = [.ref p] ∧ (SqL K H p ys ∨ SqT K H p ys) ∧ Q (.int ys.length) H) x H Q ∨ (fun xs H Q => ∃ z, xs = [.str z] ∧ z.length ≤ sizeLine ∧ Q (.int z.length) H) x H Q
theorem bw_items {oa : List (List Addr)} {Hf H : Hp} {d : D} {l : List D} {v : V} (ex : Ex Hf H) (e : itemsD d = some l) (r : Bw G oa Hf H d v) : ∃ a xs, v = .ref a ∧ (SqL G.K H a xs ∨ SqT G.K H a xs) ∧ RpA G oa Hf l xs := by
  cases d <;> cases e
  · obtain ⟨a, xs, rfl, h1, h2⟩ := bw_tup r
    exact ⟨a, xs, rfl, .inr (ex.t h1), h2⟩
  · obtain ⟨a, xs, rfl, h1, h2⟩ := bw_lst ex r
    exact ⟨a, xs, rfl, .inl (.inl h1), h2⟩
  · rcases r with r | r
    · obtain ⟨a, rfl, h1⟩ := rp_scr.mp r
      exact ⟨a, _, rfl, .inl (ex.l h1), RpA.of_ints⟩
    · exact r.elim
theorem vr_len : VRA G (rLenA G.K) gLen := VRA.or (vra_1 fun {x d1 d Hf H oa Q} ex b e k => by
    unfold lenS at e
    obtain ⟨l, e1, rfl⟩ := Option.map_eq_some_iff.mp e
    obtain ⟨a, xs, rfl, h1, h2⟩ := bw_items ex e1 b
    exact ⟨a, xs, rfl, h1, k _ Hf H (.rfl' ex) (rp_int.mpr (by rw [h2.length]))⟩)
  (vra_1 fun {x d1 d Hf H oa Q} ex b e k => by
    cases d1 <;> try (cases e)
    rename_i z
    have e : (if z.length ≤ SZ then some (D.int z.length) else none) = some d := e
    split at e
    · cases e
      rename_i h
      exact ⟨z, by rw [bw_str b], sz_le h, k _ Hf H (.rfl' ex) (rp_int.mpr rfl)⟩
    · cases e)
theorem call_lenA {X : Cx} : CallR X (.builtin "len") (rLenA X.K) := CallR.or call_len_seq call_len_str
/-! abs, min, max of two ints -/
def absD : D → Option D
  | .int i => some (.int (if i < 0 then -i else i))
  | _ => none
def gAbs : List D → Option D := on1 absD
theorem vr_abs : VRA G (fun xs H Q => ∃ i, xs = [.int i] ∧ Q (.int (if i < 0 then -i else i)) H) gAbs := vra_1 fun {x d1 d Hf H oa Q} ex b e k => by
  cases d1 <;> cases e
  exact ⟨_, by rw [bw_int b], k _ Hf H (.rfl' ex) (rp_int.mpr rfl)⟩
def gMin2 : List D → Option D := on2 (onI fun i j => .int (if j < i then j else i))
def gMax2 : List D → Option D := on2 (onI fun i j => .int (if j > i then j else i))
theorem vr_min2 : VRA G (fun xs H Q => ∃ i j, xs = [.int i, .int j] ∧ Q (.int (if j < i then j else i)) H) gMin2 := vra_2 fun {x y d1 d2 d Hf H oa Q} ex b1 b2 e k => by
  cases d1 <;> try (cases e)
  cases d2 <;> try (cases e)
  exact ⟨_, _, by rw [bw_int b1, bw_int b2], k _ Hf H (.rfl' ex) (rp_int.mpr rfl)⟩
theorem vr_max2 : VRA G (fun xs H Q => ∃ i j, xs = [.int i, .int j] ∧ Q (.int (if j > i then j else i)) H) gMax2 := vra_2 fun {x y d1 d2 d Hf H oa Q} ex b1 b2 e k => by
  cases d1 <;> try (cases e)
  cases d2 <;> try (cases e)
  exact ⟨_, _, by rw [bw_int b1, bw_int b2], k _ Hf H (.rfl' ex) (rp_int.mpr rfl)⟩
/-! any, all, sum -/
def blsD : List D → Option (List Bool)
  | [] => some []
  | .bl b :: l => (blsD l).map (b :: ·)
  | _ :: _ => none
def intsD : List D → Option (List Int)
  | [] => some []
  | .int i :: l => (intsD l).map (i :: ·)
  | _ :: _ => none
theorem blsD_some : ∀ {l : List D} {bs : List Bool}, blsD l = some bs → l = bs.map D.bl
  | [], _, e => by cases e; rfl
  | d :: l, bs, e => by
    cases d <;> try (cases e)
    obtain ⟨r, e1, rfl⟩ := Option.map_eq_some_iff.mp e
    rw [blsD_some e1]
    rfl
theorem intsD_some : ∀ {l : List D} {bs : List Int}, intsD l = some bs → l = bs.map D.int
  | [], _, e => by cases e; rfl
  | d :: l, bs, e => by
    cases d <;> try (cases e)
    obtain ⟨r, e1, rfl⟩ := Option.map_eq_some_iff.mp e
    rw [intsD_some e1]
    rfl
theorem intsD_map : ∀ l : List Int, intsD (l.map D.int) = some l
  | [] => rfl
  | i :: l => by simp [intsD, intsD_map l]
theorem blsD_map : ∀ l : List Bool, blsD (l.map D.bl) = some l
  | [] => rfl
  | i :: l => by simp [blsD, blsD_map l]
theorem RpA.bls {oa : List (List Addr)} {H : Hp} : ∀ {ns : List Bool} {vs : List V}, RpA G oa H (ns.map D.bl) vs → vs = ns.map V.bl
  | [], _, h => by rw [List.map_nil, rpa_nil] at h; exact h
  | n :: ns, _, h => by
    rw [List.map_cons, rpa_cons] at h
    obtain ⟨v, r, rfl, h1, h⟩ := h
    rw [rp_bl] at h1
    rw [h1, RpA.bls h]
    rfl
def lstD : D → Option (List D)
  | .lst l => some l
  | _ => none
def gAny : List D → Option D := on1 fun d => ((lstD d).bind blsD).map fun bs => .bl (bs.any id)
def gAll : List D → Option D := on1 fun d => ((lstD d).bind blsD).map fun bs => .bl (bs.all id)
def gSum : List D → Option D := on1 fun d => ((lstD d).bind intsD).map fun ns => .int ns.sum
theorem bw_bls {oa : List (List Addr)} {Hf H : Hp} {d : D} {l : List Bool} {v : V} (ex : Ex Hf H) (e : (lstD d).bind blsD = some l) (r : Bw G oa Hf H d v) : ∃ a, v = .ref a ∧ SqL G.K H a (l.map V.bl) := by
  cases d <;> try (cases e)
  obtain ⟨a, xs, rfl, h1, h2⟩ := bw_lst ex r
  have e := blsD_some e
  subst e
  exact ⟨a, rfl, by rw [← h2.bls]; exact .inl h1⟩
theorem bw_ints {oa : List (List Addr)} {Hf H : Hp} {d : D} {l : List Int} {v : V} (ex : Ex Hf H) (e : (lstD d).bind intsD = some l) (r : Bw G oa Hf H d v) : ∃ a, v = .ref a ∧ SqL G.K H a (l.map V.int) := by
  cases d <;> try (cases e)
  obtain ⟨a, xs, rfl, h1, h2⟩ := bw_lst ex r
  have e := intsD_some e
  subst e
  exact ⟨a, rfl, by rw [← h2.ints]; exact .inl h1⟩
theorem vr_any : VRA G (rAny G.K) gAny := vra_1 fun {x d1 d Hf H oa Q} ex b e k => by
  obtain ⟨l, e1, rfl⟩ := Option.map_eq_some_iff.mp e
  obtain ⟨a, rfl, h⟩ := bw_bls ex e1 b
  exact ⟨a, l, rfl, h, k _ Hf H (.rfl' ex) (rp_bl.mpr rfl)⟩
theorem vr_all : VRA G (rAll G.K) gAll := vra_1 fun {x d1 d Hf H oa Q} ex b e k => by
  obtain ⟨l, e1, rfl⟩ := Option.map_eq_some_iff.mp e
  obtain ⟨a, rfl, h⟩ := bw_bls ex e1 b
  exact ⟨a, l, rfl, h, k _ Hf H (.rfl' ex) (rp_bl.mpr rfl)⟩
theorem vr_sum : VRA G (rSum G.K) gSum := vra_1 fun {x d1 d Hf H oa Q} ex b e k => by
  obtain ⟨l, e1, rfl⟩ := Option.map_eq_some_iff.mp e
  obtain ⟨a, rfl, h⟩ := bw_ints ex e1 b
  exact ⟨a, l, rfl, h, k _ Hf H (.rfl' ex) (rp_int.mpr rfl)⟩
/-! list(x), tuple(x) -/
def gList : List D → Option D := on1 fun d => (itemsD d).map .lst
def gTuple : List D → Option D := on1 fun d => (items0 d).map .tup
theorem vr_list : VRA G (fun xs H Q => ∃ p ys, xs = [.ref p] ∧ (SqL G.K H p ys ∨ SqT G.K H p ys) ∧ ∀ l, H l = none → Q (.ref l) (upd H l (.lst ys))) gList := vra_1 fun {x d1 d Hf H oa Q} ex b e k => by
  obtain ⟨l, e1, rfl⟩ := Option.map_eq_some_iff.mp e
  obtain ⟨a, xs, rfl, h1, h2⟩ := bw_items ex e1 b
  refine ⟨a, xs, rfl, h1, fun p hp => ?_⟩
  have pu := Pure.new (o := .lst xs) ex hp
  exact k _ _ _ pu (rp_lst.mpr ⟨p, xs, rfl, .inl upd_same, h2.mono pu.exf .rfl'⟩)
theorem vr_tuple : VRA G (fun xs H Q => ∃ p ys, xs = [.ref p] ∧ ((SqL G.K H p ys ∧ ∀ l, H l = none → Q (.ref l) (upd H l (.tup ys))) ∨ (SqT G.K H p ys ∧ Q (.ref p) H))) gTuple := vra_1 fun {x d1 d Hf H oa Q} ex b e k => by
  obtain ⟨l, e1, rfl⟩ := Option.map_eq_some_iff.mp e
  cases d1 <;> cases e1
  · obtain ⟨a, xs, rfl, h1, h2⟩ := bw_tup b
    exact ⟨a, xs, rfl, .inr ⟨ex.t h1, k _ Hf H (.rfl' ex) (rp_tup.mpr ⟨a, xs, rfl, h1, h2⟩)⟩⟩
  · obtain ⟨a, xs, rfl, h1, h2⟩ := bw_lst ex b
    refine ⟨a, xs, rfl, .inl ⟨.inl h1, fun p hp => ?_⟩⟩
    have pu := Pure.new (o := .tup xs) ex hp
    exact k _ _ _ pu (rp_tup.mpr ⟨p, xs, rfl, .of upd_same, h2.mono pu.exf .rfl'⟩)
/-! isinstance(x, T) -/
def tyN : D → Option String
  | .non => some "NoneType"
  | .bl _ => some "bool"
  | .int _ => some "int"
  | .str _ => some "str"
  | .tup _ => some "tuple"
  | .lst _ => some "list"
  | _ => none
theorem bw_ty {oa : List (List Addr)} {Hf H : Hp} {d : D} {n : String} {v : V} (ex : Ex Hf H) (e : tyN d = some n) (r : Bw G oa Hf H d v) : TyX G.K H v (.type n) := by
  cases d <;> cases e
  · rw [bw_non r]; exact .base .non
  · rw [bw_bl r]; exact .base (.bl _)
  · rw [bw_int r]; exact .base (.int _)
  · rw [bw_str r]; exact .base (.str _)
  · obtain ⟨a, xs, rfl, h1, h2⟩ := bw_tup r
    rcases ex.t h1 with (h | ⟨o, h⟩) | ⟨o, its, m, h, hc, _⟩
    · exact .base (.tup h)
    · exact .fTuple h
    · exact .kTuple h hc
  · obtain ⟨a, xs, rfl, h1, h2⟩ := bw_lst ex r
    rcases h1 with h | ⟨o, h⟩
    · exact .base (.lst h)
    · exact .base (.frz h)
/-- the answer; only the four classes that are asked -/
def isiB (n T : String) : Option Bool := if T = "int" then some (decide (n = "int" ∨ n = "bool")) else if T = "bool" then some (decide (n = "bool")) else if T = "tuple" then some (decide (n = "tuple")) else if T = "str" then some (decide (n = "str")) else none
def isiD (T : String) (d : D) : Option D := (tyN d).bind fun n => (isiB n T).map .bl
theorem kit_all : ∀ n ∈ ["NoneType", "bool", "int", "str", "tuple", "list"], ∀ T ∈ ["int", "bool", "tuple", "str"], isiB n T = kitB n T := by decide +kernel
theorem isi_kit {d : D} {n T : String} {b : Bool} (e : tyN d = some n) (h : isiB n T = some b) : kitB n T = some b := by
  have hn : n ∈ ["NoneType", "bool", "int", "str", "tuple", "list"] := by cases d <;> cases e <;> simp
  have hT : T ∈ ["int", "bool", "tuple", "str"] := by
    unfold isiB at h
    split at h
    · rename_i z; simp [z]
    · split at h
      · rename_i z; simp [z]
      · split at h
        · rename_i z; simp [z]
        · split at h
          · rename_i z; simp [z]
          · cases h
  rw [← kit_all n hn T hT]
  exact h
def fIsi (T : String) (fa : Fe) : Fe := f1 (isiD T) fa
theorem ev_isi {E : XK} {T : String} {fa : Fe} {σ : L2.St} {H : Hp} {Q : VK} (h : Ev G E (RE G) (fIsi T fa) σ H Q) : tCB (rIsi G.K) (tCons (Ev G E (RB G) fa) (tCons (tC (.ty T)) tNil)) σ H Q := by
  obtain ⟨Hf, oa, ρ, τ, rel, a⟩ := h
  refine ⟨Hf, oa, ρ, τ, rel, a.bnd fun d1 τ1 x H1 Hf1 oa1 _ p1 g1 r1 a1 => ?_⟩
  obtain ⟨d, e, a3⟩ := a1.opt
  unfold isiD at e
  obtain ⟨n, e1, e2⟩ := Option.bind_eq_some_iff.mp e
  obtain ⟨b, e3, rfl⟩ := Option.map_eq_some_iff.mp e2
  exact ⟨x, .ty T, .type n, .type T, b, rfl, .ty T, bw_ty g1.ex e1 r1, kit_ty (isi_kit e1 e3), a3.ret g1 (rp_bl.mpr rfl)⟩
/-! ### places, slices -/
def gIx (a b : D) : Option D := match b with
  | .int i => (itemsD a).bind fun l => atI l i
  | _ => none
theorem atI_rp {oa : List (List Addr)} {H : Hp} {l : List D} {vs : List V} {i : Int} {d : D} (h : RpA G oa H l vs) (e : atI l i = some d) : ∃ v, atI vs i = some v ∧ Rp G oa H d v := by
  unfold atI at e ⊢
  rw [h.length]
  obtain ⟨j, e1, e2⟩ := Option.bind_eq_some_iff.mp e
  obtain ⟨v, h1, h2⟩ := h.get e2
  exact ⟨v, by rw [e1]; exact h1, h2⟩
def ixS (a b : D) : Option D := match a, b with
  | .str x, .int i => if x.length ≤ SZ then (atI x.cps.toList i).map fun c => .str ⟨#[c]⟩ else none
  | _, _ => none
def gIxA : D → D → Option D := fun a b => (gIx a b).or (ixS a b)
abbrev rIxA (K : PySem.W.Frag) : R2 := fun x y H Q => (fun x y H Q => rIxL K x y H Q ∨ rIxT K x y H Q) x y H Q ∨ rIxS x y H Q
theorem vr_ixQ : VR2 G (fun x y H Q => rIxL G.K x y H Q ∨ rIxT G.K x y H Q) gIx := by
  intro x y d1 d2 d Hf H oa Q ex r1 r2 e k
  cases d2 <;> try (cases e)
  rename_i i
  have e : ((itemsD d1).bind fun l => atI l i) = some d := e
  obtain ⟨l, e1, e2⟩ := Option.bind_eq_some_iff.mp e
  obtain ⟨a, xs, rfl, h1, h2⟩ := bw_items ex e1 r1
  obtain ⟨v, h3, h4⟩ := atI_rp h2 e2
  rcases h1 with h1 | h1
  · exact .inl ⟨a, xs, i, v, rfl, bw_int r2, h1, h3, k _ Hf H (.rfl' ex) h4⟩
  · exact .inr ⟨a, xs, i, v, rfl, bw_int r2, h1, h3, k _ Hf H (.rfl' ex) h4⟩
theorem vr_ixS : VR2 G rIxS ixS := by
  intro x y d1 d2 d Hf H oa Q ex r1 r2 e k
  cases d1 <;> try (cases e)
  rename_i x
  cases d2 <;> try (cases e)
  rename_i i
  have e : (if x.length ≤ SZ then (atI x.cps.toList i).map fun c => D.str ⟨#[c]⟩ else none) = some d := e
  split at e
  · rename_i hz
    obtain ⟨c, e1, rfl⟩ := Option.map_eq_some_iff.mp e
    exact ⟨x, i, c, bw_str r1, bw_int r2, sz_le hz, e1, k _ Hf H (.rfl' ex) (rp_str.mpr rfl)⟩
  · cases e
theorem vr_ix : VR2 G (rIxA G.K) gIxA := VR2.or vr_ixQ vr_ixS
theorem ix_A {X : Cx} : IxR X (rIxA X.K) := IxR.or (IxR.or ix_list ix_tup) ix_str
def cutD (l : List D) (lo hi : Option Int) : List D := (l.drop (HT.sIx l.length 0 lo)).take (HT.sIx l.length l.length hi - HT.sIx l.length 0 lo)
theorem cut_rp {oa : List (List Addr)} {H : Hp} {l : List D} {vs : List V} (h : RpA G oa H l vs) (lo hi : Option Int) : RpA G oa H (cutD l lo hi) (cutV vs lo hi) := by
  unfold cutD cutV
  rw [h.length]
  exact (h.drop _).take _
def gSl (d : D) (lo hi : Option Int) : Option D := match d with
  | .tup l => some (.tup (cutD l lo hi))
  | .lst l => some (.lst (cutD l lo hi))
  | .str x => if x.length ≤ SZ then some (.str (cutS x lo hi)) else none
  | _ => none
def intD : D → Option Int
  | .int i => some i
  | _ => none
def fPart (f : Fe) : En → M (Option Int) := fun ρ => M.bnd (f ρ) fun d => M.bnd (M.opt (intD d)) fun i => M.ret (some i)
def fNoPart : En → M (Option Int) := fun _ => M.ret none
def fSl (fa : Fe) (fl fu : En → M (Option Int)) : Fe := fun ρ => M.bnd (fa ρ) fun d => M.bnd (fl ρ) fun lo => M.bnd (fu ρ) fun hi => M.opt (gSl d lo hi)
abbrev RP : List (List Addr) → Hp → Hp → Option Int → Option Int → Prop := fun _ _ _ b c => c = b
theorem ev_part {E : XK} {f : Fe} {σ : L2.St} {H : Hp} {Q : Option Int → Hp → Prop} (h : Ev G E RP (fPart f) σ H Q) : tPart (Ev G E (RE G) f) σ H Q := by
  obtain ⟨Hf, oa, ρ, τ, rel, a⟩ := h
  refine ⟨Hf, oa, ρ, τ, rel, a.bnd fun d1 τ1 x H1 Hf1 oa1 _ p1 g1 r1 a1 => ?_⟩
  cases d1 <;> try (exact False.elim a1)
  rename_i i _
  exact ⟨i, rp_int.mp r1, At.ret (R := RP) a1 g1 rfl⟩
theorem ev_noPart {E : XK} {σ : L2.St} {H : Hp} {Q : Option Int → Hp → Prop} (h : Ev G E RP fNoPart σ H Q) : tNoPart σ H Q := by
  obtain ⟨Hf, oa, ρ, τ, rel, a⟩ := h
  exact a.ret rel.good rfl
abbrev rSlAll (K : PySem.W.Frag) : V → Option Int → Option Int → Hp → VK → Prop := fun x lo hi H Q => rSlL K x lo hi H Q ∨ (fun x lo hi H Q => rSlA K x lo hi H Q ∨ rSlS x lo hi H Q) x lo hi H Q
theorem ev_slice {E : XK} {fa : Fe} {fl fu : En → M (Option Int)} {σ : L2.St} {H : Hp} {Q : VK} (h : Ev G E (RE G) (fSl fa fl fu) σ H Q) : tSl (rSlAll G.K) (Ev G E (RB G) fa) (Ev G E RP fl) (Ev G E RP fu) σ H Q := by
  obtain ⟨Hf, oa, ρ, τ, rel, a⟩ := h
  refine ⟨Hf, oa, ρ, τ, rel, a.bnd fun d1 τ1 x H1 Hf1 oa1 _ p1 g1 r1 a1 => ⟨Hf1, oa1, ρ, τ1, rel.post p1 g1, a1.bnd fun lo τ2 lo' H2 Hf2 oa2 _ p2 g2 r2 a2 =>
    ⟨Hf2, oa2, ρ, τ2, (rel.post p1 g1).post p2 g2, a2.bnd fun hi τ3 hi' H3 Hf3 oa3 _ p3 g3 r3 a3 => ?_⟩⟩⟩
  have r2 : lo' = lo := r2
  have r3 : hi' = hi := r3
  subst r2 r3
  obtain ⟨d, e, a4⟩ := a3.opt
  have b := (Bw.post r1 p2).post p3
  cases d1 with
  | str x =>
    have e : (if x.length ≤ SZ then some (D.str (cutS x lo' hi')) else none) = some d := e
    split at e
    · rename_i hz
      cases e
      exact .inr (.inr ⟨x, bw_str b, sz_le hz, a4.ret g3 (rp_str.mpr rfl)⟩)
    · cases e
  | tup l =>
    cases e
    obtain ⟨p, xs, rfl, h1, h2⟩ := bw_tup b
    refine .inr (.inl ⟨p, xs, rfl, g3.ex.t h1, fun hw => ?_, fun _ q hq => ?_⟩)
    · refine a4.ret g3 (rp_tup.mpr ⟨p, xs, rfl, h1, ?_⟩)
      unfold cutD
      have hl := h2.length
      rw [hl] at hw
      rw [hw.1, hw.2]
      simpa using h2
    · have pu := Pure.new (o := .tup (cutV xs lo' hi')) g3.ex hq
      exact a4.pure g3 pu (rp_tup.mpr ⟨q, _, rfl, .of upd_same, (cut_rp h2 _ _).mono pu.exf .rfl'⟩)
  | lst l =>
    cases e
    obtain ⟨p, xs, rfl, h1, h2⟩ := bw_lst g3.ex b
    refine .inl ⟨p, xs, rfl, .inl h1, fun q hq => ?_⟩
    have pu := Pure.new (o := .lst (cutV xs lo' hi')) g3.ex hq
    exact a4.pure g3 pu (rp_lst.mpr ⟨q, _, rfl, .inl upd_same, (cut_rp h2 _ _).mono pu.exf .rfl'⟩)
  | _ => cases e
theorem sl_all {X : Cx} : SlR X (rSlAll X.K) := SlR.or sl_list (SlR.or sl_tupA sl_str)
/-! ### what is walked -/
def itL (d : D) : Option (List D) := match d with
  | .lst l => some l
  | _ => none
def itT (d : D) : Option (List D) := match d with
  | .tup l => some l
  | _ => none
def fItL (f : Fe) : En → M (List D) := fun ρ => M.bnd (f ρ) fun d => M.opt (itL d)
def fItT (f : Fe) : En → M (List D) := fun ρ => M.bnd (f ρ) fun d => M.opt (itT d)
theorem yl_list {oa : List (List Addr)} {Hf : Hp} {l : List D} {a : Addr} {xs : List V} (h1 : Rd Hf a (.lst xs)) (h2 : RpA G oa Hf l xs) (inj : ∀ H a xs ys, SqL G.K H a xs → SqL G.K H a ys → True) : Yl G oa Hf (Itl G.K a) l := by
  intro i Hf1 H1 oa1 e1 e2 o1
  have hs : SqL G.K H1 a xs := .inl (e2.rd (e1.rd h1))
  have hr := h2.mono e1 o1
  refine ⟨fun hi => ?_, fun hi => ?_⟩
  · obtain ⟨v, hv, rv⟩ := hr.get (List.getElem?_eq_getElem hi)
    refine ⟨⟨xs, v, hs, hv⟩, fun x H2 hy => ?_⟩
    obtain ⟨rfl, hy⟩ := hy
    have := hy xs hs
    rw [hv] at this
    cases this
    exact ⟨Hf1, l[i], .rfl' e2, List.getElem?_eq_getElem hi, rv⟩
  · exact ⟨xs, hs, by rw [hr.length]; omega⟩
theorem yl_tup {oa : List (List Addr)} {Hf : Hp} {l : List D} {a : Addr} {xs : List V} (h1 : SqT G.K Hf a xs) (h2 : RpA G oa Hf l xs) : Yl G oa Hf (Itt G.K a) l := by
  intro i Hf1 H1 oa1 e1 e2 o1
  have hs : SqT G.K H1 a xs := e2.t (e1.t h1)
  have hr := h2.mono e1 o1
  refine ⟨fun hi => ?_, fun hi => ?_⟩
  · obtain ⟨v, hv, rv⟩ := hr.get (List.getElem?_eq_getElem hi)
    refine ⟨⟨xs, v, hs, hv⟩, fun x H2 hy => ?_⟩
    obtain ⟨rfl, hy⟩ := hy
    have := hy xs hs
    rw [hv] at this
    cases this
    exact ⟨Hf1, l[i], .rfl' e2, List.getElem?_eq_getElem hi, rv⟩
  · exact ⟨xs, hs, by rw [hr.length]; omega⟩
theorem ev_itL {E : XK} {f : Fe} {σ : L2.St} {H : Hp} {R : It → Hp → Prop} (h : Ev G E (RI G) (fItL f) σ H R) : iList G.K (Ev G E (RE G) f) σ H R := by
  obtain ⟨Hf, oa, ρ, τ, rel, a⟩ := h
  refine ⟨Hf, oa, ρ, τ, rel, a.bnd fun d1 τ1 x H1 Hf1 oa1 _ p1 g1 r1 a1 => ?_⟩
  obtain ⟨l, e, a2⟩ := a1.opt
  cases d1 <;> cases e
  obtain ⟨p, xs, rfl, h1, h2⟩ := rp_lst.mp r1
  exact ⟨p, rfl, ⟨xs, .inl (g1.ex.rd h1)⟩, a2.ret g1 (yl_list h1 h2 fun _ _ _ _ _ _ => trivial)⟩
theorem ev_itT {E : XK} {f : Fe} {σ : L2.St} {H : Hp} {R : It → Hp → Prop} (h : Ev G E (RI G) (fItT f) σ H R) : iTup G.K (Ev G E (RE G) f) σ H R := by
  obtain ⟨Hf, oa, ρ, τ, rel, a⟩ := h
  refine ⟨Hf, oa, ρ, τ, rel, a.bnd fun d1 τ1 x H1 Hf1 oa1 _ p1 g1 r1 a1 => ?_⟩
  obtain ⟨l, e, a2⟩ := a1.opt
  cases d1 <;> cases e
  obtain ⟨p, xs, rfl, h1, h2⟩ := rp_tup.mp r1
  exact ⟨p, rfl, ⟨xs, g1.ex.t h1⟩, a2.ret g1 (yl_tup h1 h2)⟩
/-- lo, lo + 1, .. -/
def rngD (lo : Int) (n : Nat) : List D := (List.range n).map fun (i : Nat) => .int (lo + i)
theorem yl_rng {oa : List (List Addr)} {Hf : Hp} {lo : Int} {n : Nat} : Yl G oa Hf (Itr lo n) (rngD lo n) := by
  intro i Hf1 H1 oa1 e1 e2 o1
  have hl : (rngD lo n).length = n := by simp [rngD]
  rw [hl]
  refine ⟨fun hi => ⟨hi, fun x H2 hy => ?_⟩, fun hi => Nat.le_of_eq hi.symm⟩
  obtain ⟨rfl, rfl⟩ := hy
  exact ⟨Hf1, .int (lo + i), .rfl' e2, by simp [rngD, hi], rp_int.mpr rfl⟩
def rng1 : List D → Option (List D)
  | [.int j] => if -SZ ≤ j ∧ j ≤ SZ then some (rngD 0 j.toNat) else none
  | _ => none
def rng2 : List D → Option (List D)
  | [.int i, .int j] => if -SZ ≤ i ∧ i ≤ SZ ∧ -SZ ≤ j ∧ j ≤ SZ then some (rngD i (j - i).toNat) else none
  | _ => none
def fRng (g : List D → Option (List D)) (fa : Fa) : En → M (List D) := fun ρ => M.bnd (fa ρ) fun ds => M.opt (g ds)
theorem rpa_one {oa : List (List Addr)} {H : Hp} {d : D} {vs : List V} (h : RpA G oa H [d] vs) : ∃ v, vs = [v] ∧ Rp G oa H d v := by
  obtain ⟨v, r, rfl, h1, h2⟩ := rpa_cons.mp h
  rw [rpa_nil] at h2
  subst h2
  exact ⟨v, rfl, h1⟩
theorem rpa_two {oa : List (List Addr)} {H : Hp} {d e : D} {vs : List V} (h : RpA G oa H [d, e] vs) : ∃ v w, vs = [v, w] ∧ Rp G oa H d v ∧ Rp G oa H e w := by
  obtain ⟨v, r, rfl, h1, h2⟩ := rpa_cons.mp h
  obtain ⟨w, rfl, h3⟩ := rpa_one h2
  exact ⟨v, w, rfl, h1, h3⟩
theorem ev_rng1 {E : XK} {fa : Fa} {σ : L2.St} {H : Hp} {R : It → Hp → Prop} (h : Ev G E (RI G) (fRng rng1 fa) σ H R) : iRng1 (Ev G E (RA G) fa) σ H R := by
  obtain ⟨Hf, oa, ρ, τ, rel, a⟩ := h
  refine ⟨Hf, oa, ρ, τ, rel, a.bnd fun ds τ1 x H1 Hf1 oa1 _ p1 g1 r1 a1 => ?_⟩
  obtain ⟨l, e, a2⟩ := a1.opt
  match ds, e with
  | [.int j], e =>
    have e : (if -SZ ≤ j ∧ j ≤ SZ then some (rngD 0 j.toNat) else none) = some l := e
    split at e
    · rename_i hz
      cases e
      obtain ⟨v, rfl, h1⟩ := rpa_one r1
      rw [rp_int] at h1
      subst h1
      have h2 : (SZ : Int) = 1000000 := rfl
      exact ⟨j, rfl, by omega, by omega, a2.ret g1 yl_rng⟩
    · cases e
theorem ev_rng2 {E : XK} {fa : Fa} {σ : L2.St} {H : Hp} {R : It → Hp → Prop} (h : Ev G E (RI G) (fRng rng2 fa) σ H R) : iRng2 (Ev G E (RA G) fa) σ H R := by
  obtain ⟨Hf, oa, ρ, τ, rel, a⟩ := h
  refine ⟨Hf, oa, ρ, τ, rel, a.bnd fun ds τ1 x H1 Hf1 oa1 _ p1 g1 r1 a1 => ?_⟩
  obtain ⟨l, e, a2⟩ := a1.opt
  match ds, e with
  | [.int i, .int j], e =>
    have e : (if -SZ ≤ i ∧ i ≤ SZ ∧ -SZ ≤ j ∧ j ≤ SZ then some (rngD i (j - i).toNat) else none) = some l := e
    split at e
    · rename_i hz
      cases e
      obtain ⟨v, w, rfl, h1, h3⟩ := rpa_two r1
      rw [rp_int] at h1 h3
      subst h1 h3
      have h2 : (SZ : Int) = 1000000 := rfl
      exact ⟨i, j, rfl, ⟨by omega, by omega, by omega, by omega⟩, a2.ret g1 yl_rng⟩
    · cases e
/-- zip of two tuples -/
def zip2 : List D → Option (List D)
  | [.tup a, .tup b] => some ((a.zip b).map fun p => .tup [p.1, p.2])
  | _ => none
theorem yl_zip {oa : List (List Addr)} {Hf : Hp} {la lb : List D} {a b : Addr} {xs ys : List V} (h1 : SqT G.K Hf a xs) (h2 : RpA G oa Hf la xs) (h3 : SqT G.K Hf b ys) (h4 : RpA G oa Hf lb ys) : Yl G oa Hf (RZ.ItzT G.K a b) ((la.zip lb).map fun p => .tup [p.1, p.2]) := by
  intro i Hf1 H1 oa1 e1 e2 o1
  have hs : SqT G.K H1 a xs := e2.t (e1.t h1)
  have ht : SqT G.K H1 b ys := e2.t (e1.t h3)
  have hr := h2.mono e1 o1
  have hq := h4.mono e1 o1
  have la' := hr.length
  have lb' := hq.length
  have hl : ((la.zip lb).map fun p => D.tup [p.1, p.2]).length = min la.length lb.length := by rw [List.length_map, List.length_zip]
  rw [hl]
  refine ⟨fun hi => ?_, fun hi => ?_⟩
  · obtain ⟨v, hv, rv⟩ := hr.get (List.getElem?_eq_getElem (show i < la.length by omega))
    obtain ⟨w, hw, rw'⟩ := hq.get (List.getElem?_eq_getElem (show i < lb.length by omega))
    refine ⟨⟨xs, ys, v, w, hs, ht, hv, hw⟩, fun x H2 hy => ?_⟩
    obtain ⟨T, x1, y1, rfl, nT, rfl, k1, k2⟩ := hy
    have z1 := k1 xs hs
    have z2 := k2 ys ht
    rw [hv] at z1
    rw [hw] at z2
    cases z1
    cases z2
    have pu := Pure.new (o := .tup [v, w]) e2 nT
    refine ⟨_, .tup [la[i], lb[i]], pu, ?_, rp_tup.mpr ⟨T, _, rfl, .of upd_same, rpa_cons.mpr ⟨v, [w], rfl, rv.mono pu.exf .rfl', .one (rw'.mono pu.exf .rfl')⟩⟩⟩
    simp [List.getElem?_map, List.getElem?_zip_eq_some, show i < la.length by omega, show i < lb.length by omega]
  · exact ⟨xs, ys, hs, ht, by omega⟩
theorem ev_zip2 {E : XK} {fa : Fa} {σ : L2.St} {H : Hp} {R : It → Hp → Prop} (h : Ev G E (RI G) (fRng zip2 fa) σ H R) : RZ.iZipA G.K (Ev G E (RA G) fa) σ H R := by
  obtain ⟨Hf, oa, ρ, τ, rel, a⟩ := h
  refine ⟨Hf, oa, ρ, τ, rel, a.bnd fun ds τ1 x H1 Hf1 oa1 _ p1 g1 r1 a1 => ?_⟩
  obtain ⟨l, e, a2⟩ := a1.opt
  match ds, e with
  | [.tup la, .tup lb], e =>
    cases e
    obtain ⟨v, w, rfl, h1, h3⟩ := rpa_two r1
    obtain ⟨p, xs, rfl, h1, h2⟩ := rp_tup.mp h1
    obtain ⟨q, ys, rfl, h3, h4⟩ := rp_tup.mp h3
    exact ⟨p, q, xs, ys, rfl, .inr ⟨g1.ex.t h1, g1.ex.t h3, a2.ret g1 (yl_zip h1 h2 h3 h4)⟩⟩
/-- enumerate of a list -/
def enumL : List D → Option (List D)
  | [.lst a] => some ((a.zipIdx).map fun p => .tup [.int (p.2 : Nat), p.1])
  | _ => none
theorem yl_enum {oa : List (List Addr)} {Hf : Hp} {la : List D} {a : Addr} {xs : List V} (h1 : Rd Hf a (.lst xs)) (h2 : RpA G oa Hf la xs) : Yl G oa Hf (Ite G.K a) (la.zipIdx.map fun p => .tup [.int (p.2 : Nat), p.1]) := by
  intro i Hf1 H1 oa1 e1 e2 o1
  have hs : SqL G.K H1 a xs := .inl (e2.rd (e1.rd h1))
  have hr := h2.mono e1 o1
  have la' := hr.length
  have hl : (la.zipIdx.map fun p => D.tup [.int (p.2 : Nat), p.1]).length = la.length := by simp
  rw [hl]
  refine ⟨fun hi => ?_, fun hi => ⟨xs, hs, by omega⟩⟩
  obtain ⟨v, hv, rv⟩ := hr.get (List.getElem?_eq_getElem hi)
  refine ⟨⟨xs, v, hs, hv⟩, fun x H2 hy => ?_⟩
  obtain ⟨T, x1, rfl, nT, rfl, k1⟩ := hy
  have z1 := k1 xs hs
  rw [hv] at z1
  cases z1
  have pu := Pure.new (o := .tup [.int (i : Nat), v]) e2 nT
  refine ⟨_, .tup [.int (i : Nat), la[i]], pu, ?_, rp_tup.mpr ⟨T, _, rfl, .of upd_same, rpa_cons.mpr ⟨.int (i : Nat), [v], rfl, rp_int.mpr rfl, .one (rv.mono pu.exf .rfl')⟩⟩⟩
  simp [hi]
theorem ev_enumL {E : XK} {fa : Fa} {σ : L2.St} {H : Hp} {R : It → Hp → Prop} (h : Ev G E (RI G) (fRng enumL fa) σ H R) : iEnum G.K (Ev G E (RA G) fa) σ H R := by
  obtain ⟨Hf, oa, ρ, τ, rel, a⟩ := h
  refine ⟨Hf, oa, ρ, τ, rel, a.bnd fun ds τ1 x H1 Hf1 oa1 _ p1 g1 r1 a1 => ?_⟩
  obtain ⟨l, e, a2⟩ := a1.opt
  match ds, e with
  | [.lst la], e =>
    cases e
    obtain ⟨v, rfl, h1⟩ := rpa_one r1
    obtain ⟨p, xs, rfl, h1, h2⟩ := rp_lst.mp h1
    exact ⟨p, xs, rfl, .inl (g1.ex.rd h1), a2.ret g1 (yl_enum h1 h2)⟩
end
end KF
set_option maxHeartbeats 4000000
/-! KF8: x[::-1], t.index(x), sorted(set(x)). -/
namespace KF
open PySem PySem.Spec PyProof.Rows L2
section
variable {prog : Program} {w : World} {A : Around} {E : Value → Shared → Prop} {s : Shared}
theorem adj_back (n : Nat) : Builtin.Slice.sliceAdjust none none (-1) (n : Int) = ((n : Int) - 1, -1) := rfl
theorem places_back (n : Nat) : Builtin.Slice.slicePlaces ((n : Int) - 1) (-1) (-1) = n := by
  unfold Builtin.Slice.slicePlaces
  rw [if_neg (by decide)]
  by_cases h : (n : Int) - 1 > -1
  · rw [if_pos h]
    have : (-(-1 : Int)) = 1 := rfl
    rw [this, Int.ediv_one]
    omega
  · rw [if_neg h]
    omega
theorem filterMap_some {α β : Type} {f : α → Option β} {g : α → β} : ∀ {l : List α}, (∀ m ∈ l, f m = some (g m)) → l.filterMap f = l.map g
  | [], _ => rfl
  | x :: l, h => by
    rw [List.filterMap_cons, h x List.mem_cons_self, List.map_cons, filterMap_some fun m hm => h m (List.mem_cons_of_mem _ hm)]
theorem pick_back (xs : Array Value) : ((List.range xs.size).filterMap fun (m : Nat) => xs[(((xs.size : Int) - 1) + (m : Int) * (-1)).toNat]?).toArray = xs.toList.reverse.toArray := by
  congr 1
  apply List.ext_getElem?
  intro i
  have hsome : ∀ m ∈ List.range xs.size, xs[(((xs.size : Int) - 1) + (m : Int) * (-1)).toNat]? = some (xs[xs.size - 1 - m]?.getD default) := by
    intro m hm
    have hm := List.mem_range.mp hm
    have e : (((xs.size : Int) - 1) + (m : Int) * (-1)).toNat = xs.size - 1 - m := by omega
    have hl : xs.size - 1 - m < xs.size := by omega
    rw [e, Array.getElem?_eq_getElem hl]
    rfl
  have : (List.range xs.size).filterMap (fun (m : Nat) => xs[(((xs.size : Int) - 1) + (m : Int) * (-1)).toNat]?) = (List.range xs.size).map fun m => xs[xs.size - 1 - m]?.getD default := by
    exact filterMap_some hsome
  rw [this]
  by_cases hi : i < xs.size
  · have hl : xs.size - 1 - i < xs.size := by omega
    rw [List.getElem?_map, List.getElem?_range hi, List.getElem?_reverse (by simpa using hi)]
    simp [Array.getElem?_eq_getElem hl, hl]
  · rw [List.getElem?_eq_none (by simpa using hi), List.getElem?_eq_none (by simpa using hi)]
theorem applied_back {sl : Addr} {vs : Value} {n : Nat} {Q : Int × Int × Nat → Shared → Prop} (hs : s.heap.IsSliceOf sl .none .none vs) (ps : IsPart vs (some (-1)))
    (h : Q ((n : Int) - 1, -1, n) s) : wpAny (model prog w) A (Builtin.Slice.sliceApplied (.ref sl) (pure (n : Int))) Q E s := by
  obtain ⟨os, hos, hcs, hds⟩ := id hs
  unfold Builtin.Slice.sliceApplied Builtin.Slice.sliceFields
  refine wpAny_bind (wpAny_bind (wpAny_field hos hds (x := Value.none) rfl (wpAny_bind (wpAny_field hos hds (x := Value.none) rfl (wpAny_bind (wpAny_field hos hds (x := vs) rfl (wpAny_pure ?_)))))))
  refine wpAny_bind (HT.slicePart_ ps ?_)
  show wpAny _ _ (if ((-1 : Int) == 0) = true then _ else _) _ _ s
  rw [if_neg (by decide)]
  refine wpAny_bind (HT.slicePart_ .none (wpAny_bind (HT.slicePart_ .none (wpAny_bind (wpAny_pure ?_)))))
  show wpAny _ _ (match Builtin.Slice.sliceAdjust none none (-1) (n : Int) with | (lo, hi) => pure (lo, (-1 : Int), Builtin.Slice.slicePlaces lo hi (-1))) _ _ s
  rw [adj_back]
  show wpAny _ _ (pure ((n : Int) - 1, (-1 : Int), Builtin.Slice.slicePlaces ((n : Int) - 1) (-1) (-1))) _ _ s
  rw [places_back]
  exact wpAny_pure h
theorem getItem_back {t sl : Addr} {items : Array Value} {vs : Value} {Q : Value → Shared → Prop} (ht : IsTup s.heap t items) (hs : s.heap.IsSliceOf sl .none .none vs) (ps : IsPart vs (some (-1)))
    (h : Q (.ref s.heap.objs.size) { s with heap := s.heap.push { cls := .type "tuple", data := .seq items.toList.reverse.toArray } })
    (hsz : items.size ≤ sizeLine) : wpAny (model prog w) A (getItem (.ref t) (.ref sl)) Q E s := by
  have hz : sizeOk (.seq items.toList.reverse.toArray) := by
    show items.toList.reverse.toArray.size ≤ sizeLine
    rw [List.size_toArray, List.length_reverse, Array.length_toList]
    exact hsz
  obtain ⟨os, hos, hcs, hds⟩ := id hs
  have hTs : s.TypeIs (.ref sl) "slice" := ⟨os, hos, hcs⟩
  unfold getItem
  try with_reducible refine wpAny_holding ?_
  first | refine wpAny_bind (wpAny_pure ?_) | skip
  refine wpAny_bind (wpAny_sequenceKey ht.typeIs (by decide) ?_)
  refine wpAny_bind (wpAny_callSpecial?_slot (name := Str.ofString "__getitem__") ht.typeIs PyProof.Rows.slot_tuple_getitem
    (wpAny_call_entry PyProof.Rows.slot_tuple_getitem ht.typeIs entry_tuple_getitem ?_ (args_tuple_getitem _ _)))
  show wpAny _ _ (Builtin.Tuple.tupleItemsOf (.ref t) >>= _) _ _ s
  refine wpAny_bind (tupleItemsOf_ ht ?_)
  refine wpAny_bind (wpAny_typeOf hTs ?_)
  rw [if_pos (by decide)]
  refine wpAny_bind (applied_back hs ps ?_)
  show wpAny _ _ (if ((((items.size : Int) - 1) == 0 && (-1 : Int) == 1 && items.size == items.size) = true) then _ else _) _ _ s
  rw [if_neg (by simp), pick_back]
  first
    | exact wpAny_bind (m := Builtin.Tuple.tupleExact _) (wpAny_newObj_type (wpAny_pure ⟨_, rfl, wpAny_pure h⟩) hz)
    | exact wpAny_bind (m := Builtin.Tuple.tupleExact _) (wpAny_newObj_type (wpAny_bind (wpAny_pure (wpAny_pure ⟨_, rfl, wpAny_pure h⟩))) hz)
    | exact wpAny_bind (wpAny_bind (m := Builtin.Tuple.tupleExact _) (wpAny_newObj_type (wpAny_pure (wpAny_pure ⟨_, rfl, wpAny_pure h⟩)) hz))
    | exact wpAny_bind (wpAny_bind (m := Builtin.Tuple.tupleExact _) (wpAny_newObj_type (wpAny_pure ⟨_, rfl, wpAny_pure h⟩) hz))
end
section
variable {X : Cx}
/-- x[::-1] of a list, a tuple -/
def tRevA (K : PySem.W.Frag) (te : TE) : TE := fun σ H Q => te σ H fun x H1 => ∃ a xs, x = .ref a ∧ ((SqL K H1 a xs ∧ ∀ p, H1 p = none → Q (.ref p) (upd H1 p (.lst xs.reverse))) ∨ (SqT K H1 a xs ∧ ∀ p, H1 p = none → Q (.ref p) (upd H1 p (.tup xs.reverse))))
theorem pe_revA {e : Expr} {te : TE} {k : Nat} {p1 p2 p3 pos : Pos} (he : PE X e te) : PE X (.Subscript e (.Slice none none (some (.UnaryOp .USub (.Constant (.int 1) k p1) p2)) p3) pos) (tRevA X.K te) := by
  refine ⟨fun pins s σ H Q I h => ?_⟩
  refine Subscript_ (thn (he.run pins s σ H _ I h) fun v s1 ⟨x, H1, I1, r1, q1⟩ => ?_)
  obtain ⟨a, xs, ex, q⟩ := q1
  subst ex
  cases r1
  have hst : PO X (some (.UnaryOp .USub (.Constant (.int 1) k p1) p2)) (tPart (tUn (rU fun i => .int (-i)) (tC (.int 1)))) := po_some (pe_un un_neg pe_int)
  refine wpAny_Slice (thn (po_none.run pins s1 σ H1 (fun o H2 => o = none ∧ H2 = H1) I1 ⟨rfl, rfl⟩) fun vl s2 ⟨l, H2, I2, pl, el, e2⟩ => ?_)
  subst el e2
  refine thn (po_none.run pins s2 σ H2 (fun o H3 => o = none ∧ H3 = H2) I2 ⟨rfl, rfl⟩) fun vu s3 ⟨u, H3, I3, pu, eu, e3⟩ => ?_
  subst eu e3
  refine thn (hst.run pins s3 σ H3 (fun o H4 => o = some (-1) ∧ H4 = H3) I3 ⟨1, rfl, -1, rfl, rfl, rfl⟩) fun vs s4 ⟨o, H4, I4, ps, eo, e4⟩ => ?_
  subst eo e4
  have I5 : Inv X pins σ H4 { s4 with heap := s4.heap.push { cls := .type "slice", data := .fields #[vl, vu, vs] } } := I4.kept (t' := s4.toks) fun b ob q => Heap.get?_push_of_some _ q
  show wpAny (model X.prog X.w) X.A (subscriptTail e (.Slice none none (some (.UnaryOp .USub (.Constant (.int 1) k p1) p2)) p3) (.ref a) (.ref s4.heap.objs.size)) (EP X pins σ Q) X.xe { s4 with heap := s4.heap.push { cls := .type "slice", data := .fields #[vl, vu, vs] } }
  rcases q with ⟨hx, q⟩ | ⟨hx, q⟩
  · obtain ⟨its, r, ht, hz⟩ := I5.list hx
    have hlen := r.length
    refine tail_any (ops := [.ref a, .ref s4.heap.objs.size]) ht.isList.typeIs (PySem.slot_list_getitem.lookup) ?_ (by with_unfolding_all rfl)
    refine wpAny_getItem_list_slice ht.isList (Heap.IsSliceOf.new _ vl vu vs) pl pu ps (by decide) ?_ (by rw [List.size_toArray]; omega)
    rw [PySem.W.krv_pick]
    refine ⟨.ref _, _, I5.laid (t' := s4.toks) (o := .lst xs.reverse) (fun b ob q => Heap.get?_push_of_some _ q) (Nat.le_refl _) ?_, rfl, q _ (I5.hok.fresh (Nat.le_refl _))⟩
    exact ⟨by rw [List.length_reverse]; exact hz, _, 0, r.reverse, Heap.get?_push_size _ rfl⟩
  · obtain ⟨its, r, ht, hz⟩ := I5.tuple hx
    have hlen := r.length
    cases pl
    cases pu
    refine tail_any (ops := [.ref a, .ref s4.heap.objs.size]) ht.typeIs PyProof.Rows.slot_tuple_getitem.lookup ?_ (by with_unfolding_all rfl)
    refine getItem_back ht (Heap.IsSliceOf.new _ .none .none vs) ps ?_ (by rw [List.size_toArray]; omega)
    refine ⟨.ref _, _, I5.laid (t' := s4.toks) (o := .tup xs.reverse) (fun b ob q => Heap.get?_push_of_some _ q) (Nat.le_refl _) ?_, rfl, q _ (I5.hok.fresh (Nat.le_refl _))⟩
    exact ⟨by rw [List.length_reverse]; exact hz, _, r.reverse, IsTup.new _ _⟩
end
section
variable {G : GC}
def revD : D → Option D
  | .lst l => some (.lst l.reverse)
  | .tup l => some (.tup l.reverse)
  | _ => none
theorem ev_rev {E : XK} {fa : Fe} {σ : L2.St} {H : Hp} {Q : VK} (h : Ev G E (RE G) (f1 revD fa) σ H Q) : tRevA G.K (Ev G E (RB G) fa) σ H Q := by
  obtain ⟨Hf, oa, ρ, τ, rel, a⟩ := h
  refine ⟨Hf, oa, ρ, τ, rel, a.bnd fun d1 τ1 x H1 Hf1 oa1 _ p1 g1 r1 a1 => ?_⟩
  obtain ⟨d, e, a3⟩ := a1.opt
  cases d1 <;> try (cases e)
  · obtain ⟨p, xs, rfl, h1, h2⟩ := bw_tup r1
    refine ⟨p, xs, rfl, .inr ⟨g1.ex.t h1, fun q hq => ?_⟩⟩
    have pu := Pure.new (o := .tup xs.reverse) g1.ex hq
    exact a3.pure g1 pu (rp_tup.mpr ⟨q, _, rfl, .of upd_same, h2.reverse.mono pu.exf .rfl'⟩)
  · obtain ⟨p, xs, rfl, h1, h2⟩ := bw_lst g1.ex r1
    refine ⟨p, xs, rfl, .inl ⟨.inl h1, fun q hq => ?_⟩⟩
    have pu := Pure.new (o := .lst xs.reverse) g1.ex hq
    exact a3.pure g1 pu (rp_lst.mpr ⟨q, _, rfl, .inl upd_same, h2.reverse.mono pu.exf .rfl'⟩)
end
/-! ### t.index(x) -/
section
variable {X : Cx}
def rIdxT (K : PySem.W.Frag) : V → List V → Hp → VK → Prop := fun x xs H Q => ∃ (a : Addr) (y : V) (d : PyData) (ds : List PyData) (j : Nat) (z : PyData), x = V.ref a ∧ xs = [y] ∧ Dp K H (V.ref a) (.tuple ds) ∧ Dp K H y d ∧
  SeqAt.shaped (.tuple ds) = true ∧ SeqAt.shaped d = true ∧ ds[j]? = some z ∧ PyData.eqv z d = true ∧ (∀ (m : Nat) (z' : PyData), m < j → ds[m]? = some z' → PyData.eqv z' d = false) ∧ Q (.int (j : Nat)) H
theorem mt_idxT (hu : X.A.units + 65 < cLine) : MtR X "tuple.index" (rIdxT X.K) := by
  intro pins s σ H x xs v us Q I rx rxs h
  obtain ⟨a, y, d, ds, j, z, rfl, rfl, hl, hy, sl, sd, hz, hzj, hno, q⟩ := h
  cases rx
  obtain ⟨uy, rfl, ry⟩ := vals1 rxs
  obtain ⟨bs, r1⟩ := Dp.reads I d y uy hy ry
  have hxs : PyData.canLayAll0 ds = true := SeqAt.canLay_of_shaped sl
  have hroom : X.A.units + 1 + min (PyData.depthAll ds) d.depth < cLine := by
    have := SeqAt.depth_of_shaped sd
    have : min (PyData.depthAll ds) d.depth ≤ d.depth := Nat.min_le_right _ _
    omega
  cases hl with
  | tup hs ha =>
    obtain ⟨its, rv, ⟨⟨cls, dd, data, sls⟩, ho, hc, n, hdt⟩, hlen⟩ := I.tuple hs
    simp only at hc hdt
    subst hc hdt
    obtain ⟨as, h4⟩ := Dp.readsAll I ds _ its ha rv
    have hn : its.length = ds.length := SeqAt.ReadsAll.length ds its as h4
    have hmap : its.map (SeqAt.readOf s.heap) = ds := SeqAt.readsAll_map ds its as hxs h4
    obtain ⟨hjd, _⟩ := List.getElem?_eq_some_iff.mp hz
    have hj : j < its.toArray.size := by rw [List.size_toArray]; omega
    have rd : ∀ (m : Nat) (hm : m < its.toArray.size) (z' : PyData), ds[m]? = some z' → SeqAt.readOf s.heap its.toArray[m] = z' := by
      intro m hm z' hz'
      have hml : m < its.length := by simpa using hm
      rw [← hmap, List.getElem?_map, List.getElem?_eq_getElem hml] at hz'
      have e1 : SeqAt.readOf s.heap its[m] = z' := Option.some.inj hz'
      simpa using e1
    refine call_meets PySem.F.slot_tuple_index ⟨_, ho, rfl⟩ PySem.F.entry_tuple_index (PySem.F.args_tuple_index_2 _ _)
      (TI.tuple_indexAt a its.toArray n dd sls uy (fun u => PyData.eqv (SeqAt.readOf s.heap u) d) j hj ?_ ?_)
      ⟨ho, SeqAt.items_eqAt (vs := its.toArray) (show ReadsAll s.heap its.toArray.toList ds as from h4) r1 hxs (SeqAt.canLay_of_shaped sd) hroom, ⟨.int (j : Nat), H, I.tok _, ⟨_, rfl⟩, q⟩⟩
    · show PyData.eqv (SeqAt.readOf s.heap its.toArray[j]) d = true
      rw [rd j hj z hz]
      exact hzj
    · intro m hm hmj
      have hz' : ds[m]? = some ds[m] := List.getElem?_eq_getElem (by omega)
      show PyData.eqv (SeqAt.readOf s.heap its.toArray[m]) d = false
      rw [rd m hm _ hz']
      exact hno m _ hmj hz'
end
/-- the first place of an equal one -/
def idxD (x : D) : List D → Option Nat
  | [] => none
  | y :: l => if deq y x = true then some 0 else (idxD x l).map (· + 1)
theorem idxD_some {x : D} : ∀ {l : List D} {j : Nat}, idxD x l = some j → ∃ y, l[j]? = some y ∧ deq y x = true ∧ ∀ (m : Nat) z, m < j → l[m]? = some z → deq z x = false
  | [], _, e => by cases e
  | y :: l, j, e => by
    unfold idxD at e
    split at e
    · rename_i h
      cases e
      exact ⟨y, rfl, h, fun m z hm => absurd hm (Nat.not_lt_zero _)⟩
    · rename_i h
      obtain ⟨k, e1, rfl⟩ := Option.map_eq_some_iff.mp e
      obtain ⟨z, h1, h2, h3⟩ := idxD_some e1
      refine ⟨z, by simpa using h1, h2, fun m w hm hw => ?_⟩
      cases m with
      | zero => simp at hw; subst hw; simpa using h
      | succ m => exact h3 m w (by omega) (by simpa using hw)
theorem toPys_get : ∀ {l : List D} {j : Nat}, (toPys l)[j]? = (l[j]?).map toPy
  | [], j => by rw [toPys]; rfl
  | d :: l, 0 => by rw [toPys]; rfl
  | d :: l, j + 1 => by rw [toPys]; simpa using toPys_get (l := l) (j := j)
section
variable {G : GC}
/-- c.index(x), c a tuple of the text's top -/
def fIdxC (c : List D) (fa : Fe) : Fe := fun ρ => M.bnd (fa ρ) fun d => M.opt (if okd 32 d = true ∧ okd 32 (.tup c) = true then (idxD d c).map fun j => .int (j : Nat) else none)
theorem ev_idxC {E : XK} {c : List D} {fa : Fe} {σ : L2.St} {H : Hp} {Q : VK} {v : V} (hv : ∀ oa Hf, Rp G oa Hf (.tup c) v) (ht : ∀ H, tyV G.K "tuple" v H) (h : Ev G E (RE G) (fIdxC c fa) σ H Q) : tBM G.K "tuple" (rIdxT G.K) (tC v) (tCons (Ev G E (RB G) fa) tNil) σ H Q := by
  obtain ⟨Hf, oa, ρ, τ, rel, a⟩ := h
  refine ⟨ht H, Hf, oa, ρ, τ, rel, a.bnd fun d1 τ1 x H1 Hf1 oa1 _ p1 g1 r1 a1 => ?_⟩
  obtain ⟨d, e, a3⟩ := a1.opt
  split at e
  · rename_i hk
    obtain ⟨j, e1, rfl⟩ := Option.map_eq_some_iff.mp e
    obtain ⟨y, h1, h2, h3⟩ := idxD_some e1
    have hv1 := hv oa1 H1
    have hd := rp_dp 32 hk.2 hv1
    obtain ⟨p, xs, rfl, _⟩ := rp_tup.mp hv1
    have hs := okd_shaped hk.2
    rw [toPy] at hd hs
    refine ⟨p, x, toPy d1, toPys c, j, toPy y, rfl, rfl, hd, bw_dp g1.ex hk.1 r1, hs, okd_shaped hk.1, by rw [toPys_get, h1]; rfl, h2, fun m z hm hz => ?_, a3.ret g1 (rp_int.mpr rfl)⟩
    rw [toPys_get] at hz
    obtain ⟨w, e4, rfl⟩ := Option.map_eq_some_iff.mp hz
    exact h3 m w hm e4
  · cases e
end
/-! ### sorted(set(x)) of ints -/
/-- the ints of l, ascending, each once -/
def insI (x : Int) : List Int → List Int
  | [] => [x]
  | y :: l => if x < y then x :: y :: l else if x = y then y :: l else y :: insI x l
def sdI (l : List Int) : List Int := l.foldr insI []
theorem mem_insI {x k : Int} : ∀ {l : List Int}, k ∈ insI x l ↔ k = x ∨ k ∈ l
  | [] => by simp [insI]
  | y :: l => by
    unfold insI
    split
    · simp
    · split
      · rename_i h; subst h; simp
      · rw [List.mem_cons, List.mem_cons, mem_insI (l := l)]
        constructor
        · rintro (h | h | h) <;> simp [h]
        · rintro (h | h | h) <;> simp [h]
theorem pw_insI {x : Int} : ∀ {l : List Int}, l.Pairwise (· < ·) → (insI x l).Pairwise (· < ·)
  | [], _ => by simp [insI]
  | y :: l, h => by
    have hh := List.pairwise_cons.mp h
    unfold insI
    split
    · rename_i hx
      refine List.pairwise_cons.mpr ⟨fun z hz => ?_, h⟩
      rcases List.mem_cons.mp hz with rfl | hz
      · exact hx
      · have := hh.1 z hz; omega
    · split
      · exact h
      · refine List.pairwise_cons.mpr ⟨fun z hz => ?_, pw_insI hh.2⟩
        rcases mem_insI.mp hz with rfl | hz
        · omega
        · exact hh.1 z hz
theorem mem_sdI {k : Int} : ∀ {l : List Int}, k ∈ sdI l ↔ k ∈ l
  | [] => by simp [sdI]
  | x :: l => by
    show k ∈ insI x (sdI l) ↔ _
    rw [mem_insI, mem_sdI, List.mem_cons]
theorem pw_sdI : ∀ l : List Int, (sdI l).Pairwise (· < ·)
  | [] => by simp [sdI]
  | x :: l => pw_insI (pw_sdI l)
theorem pw_same : ∀ {a b : List Int}, a.Pairwise (· < ·) → b.Pairwise (· < ·) → (∀ k, k ∈ a ↔ k ∈ b) → a = b
  | [], [], _, _, _ => rfl
  | [], y :: b, _, _, h => by simpa using (h y).mpr (List.mem_cons_self)
  | x :: a, [], _, _, h => by simpa using (h x).mp (List.mem_cons_self)
  | x :: a, y :: b, h1, h2, h => by
    have q1 := List.pairwise_cons.mp h1
    have q2 := List.pairwise_cons.mp h2
    have e : x = y := by
      rcases List.mem_cons.mp ((h x).mp List.mem_cons_self) with z | z
      · exact z
      · rcases List.mem_cons.mp ((h y).mpr List.mem_cons_self) with z' | z'
        · exact z'.symm
        · have := q2.1 x z; have := q1.1 y z'; omega
    subst e
    rw [pw_same q1.2 q2.2 fun k => ?_]
    constructor
    · intro hk
      rcases List.mem_cons.mp ((h k).mp (List.mem_cons_of_mem _ hk)) with z | z
      · subst z; exact absurd (q1.1 k hk) (Int.lt_irrefl _)
      · exact z
    · intro hk
      rcases List.mem_cons.mp ((h k).mpr (List.mem_cons_of_mem _ hk)) with z | z
      · subst z; exact absurd (q2.1 k hk) (Int.lt_irrefl _)
      · exact z
/-- a set's size is that of the sorted list of its members -/
theorem setR_size {w : World} {h : Heap} {a : Addr} {ns : List Int} {n : Nat} (R : SetR w h a (fun j => decide (j ∈ ns)) n) : n = (sdI ns).length := by
  obtain ⟨o, es, ep, t, _, _, _, _, nd, hm, _, _, hz, _⟩ := R
  have nd2 : (sdI ns).Nodup := (pw_sdI ns).imp fun h => Int.ne_of_lt h
  have hp : (es.toList.map keyOf).Perm (sdI ns) := (List.perm_ext_iff_of_nodup nd nd2).mpr fun k => by
    rw [← hm k, mem_sdI]
    simp
  rw [← hp.length_eq, List.length_map, Array.length_toList, hz]
end KF
set_option maxHeartbeats 4000000
/-! KF9: set of a list of ints; sorted(set(x)). -/
namespace KF
open PySem PySem.Spec PyProof.Rows L2
section
variable {P : Program} {w : World} {A : Around} {E : Value → Shared → Prop} {s : Shared}
theorem call_set_lstI {l : Addr} {items : Array Value} (ns : List Int) {Q : Value → Shared → Prop} (hh : A.handled = none) (hl : s.heap.IsList l items) (hit : IntsAre items.toList ns) (hb : ns.length + 1 < scanBound)
    (h : ∀ (h' : Heap) (tk c : Nat), SetR w h' s.heap.objs.size (fun j => decide (j ∈ ns)) c → c ≤ ns.length → (∀ b o, s.heap.get? b = some o → h'.get? b = some o) → Q (.ref s.heap.objs.size) { s with heap := h', toks := tk }) :
    wpAny (model P w) A (call (.type "set") [.ref l]) Q E s := by
  have hisz : items.size = ns.length := by
    have q := IntsAre.length hit
    rw [Array.length_toList] at q
    exact q
  obtain ⟨c, tl, hmro⟩ := F.called_set.mro
  have hmade := F.called_set.made
  have hsub := F.called_set.sub
  refine wpAny_call (codeAny_of_tree ?_)
  show wpAny _ _ (callAny (.type "set") _) _ _ _
  refine wpAny_pure ⟨Code.quiet_builtin _ (by decide +kernel), codeAny_builtin F.entry_type_call ?_⟩
  rw [Around.under_plain (weight_type_call_type "set" [.ref l] []) rfl]
  have h1 := F.called_set.notType
  have h2 := F.called_set.canCreate
  have hct := F.typeCall_set_1 (.ref l)
  repeat (any_goals (first | assumption | wp_step))

  refine codeAny_mono (code_set_led1 (.ref l) (E := E) (Q₁ := fun obj s₁ => obj = .ref s.heap.objs.size ∧ s₁ = { s with heap := s.heap.push { cls := .type "set", dict := none, data := .set #[] 0 (.fresh 0 0 (!w.params.followText "set-order")) } }) ⟨rfl, rfl⟩) fun r s₁ hr => ?_
  cases r with
  | error e => exact hr
  | ok fl =>
    cases fl with
    | ret obj =>
      obtain ⟨rfl, rfl⟩ := hr
      have hS : (s.heap.push { cls := .type "set", dict := none, data := .set #[] 0 (.fresh 0 0 (!w.params.followText "set-order")) }).get? s.heap.objs.size = some { cls := .type "set", dict := none, data := .set #[] 0 (.fresh 0 0 (!w.params.followText "set-order")) } := Heap.get?_push_size _ rfl
      have hT : Shared.TypeIs { s with heap := s.heap.push { cls := .type "set", dict := none, data := .set #[] 0 (.fresh 0 0 (!w.params.followText "set-order")) } } (.ref s.heap.objs.size) "set" := ⟨_, hS, rfl⟩
      have hli := F.called_set.init.lookup
      have hbi := F.called_set.init.bind (.ref s.heap.objs.size)
      repeat (any_goals (first | assumption | wp_step))

      refine codeAny_mono (codeAny_call_builtin (R := wants (fun r s₂ => r = .none ∧ ∃ h' tk c, s₂ = { s with heap := h', toks := tk } ∧ SetR w h' s.heap.objs.size (fun j => decide (j ∈ ns)) c ∧ c ≤ ns.length ∧
          (∀ b o, s.heap.get? b = some o → h'.get? b = some o)) E) F.called_set.init.plain F.entry_set_init (check_set_init_1 hT ?_)) fun r₂ s₂ hr₂ => ?_
      · obtain ⟨ol, hol, hcl, nl, hdl⟩ := hl
        obtain ⟨ocls, odict, odata, oslots⟩ := ol
        simp only at hcl hdl
        subst hcl; subst hdl
        have hol' : (s.heap.push { cls := .type "set", dict := none, data := .set #[] 0 (.fresh 0 0 (!w.params.followText "set-order")) }).get? l = some { cls := .type "list", dict := odict, data := .seq items nl, slots := oslots } := Heap.get?_push_of_some _ hol
        have hsls := F.sub_list_set
        have hslf := F.sub_list_frozenset
        have hne : (Value.type "list" == Value.type "dict") = false := by decide
        have hl1 : (s.heap.push { cls := .type "set", dict := none, data := .set #[] 0 (.fresh 0 0 (!w.params.followText "set-order")) }).IsList l items := ⟨_, hol', rfl, nl, rfl⟩
        unfold Builtin.«set.__init__» noKeywords Builtin.Frozenset.updateFrom
        generalize hPI : pyIter = PI
        wp_walk
        subst hPI

        refine wpAny_pyIter_list hl1 ?_
        refine wpAny_bind (wpAny_runValue ?_)
        have hlS : l < s.heap.objs.size := Heap.lt_size hol
        have hh3 : A.in1.in1.in1.handled = none := by simp [hh]
        have hz1 : (s.heap.push { cls := .type "set", dict := none, data := .set #[] 0 (.fresh 0 0 (!w.params.followText "set-order")) }).objs.size = s.heap.objs.size + 1 := Heap.size_push ..
        have hneI : l ≠ (s.heap.push { cls := .type "set", dict := none, data := .set #[] 0 (.fresh 0 0 (!w.params.followText "set-order")) }).objs.size := by
          rw [Heap.size_push]; exact Nat.ne_of_lt (Nat.lt_succ_of_lt hlS)
        have hSf : s.heap.objs.size ∉ [(s.heap.push { cls := .type "set", dict := none, data := .set #[] 0 (.fresh 0 0 (!w.params.followText "set-order")) }).objs.size, l] := by
          rw [Heap.size_push]; simp only [List.mem_cons, List.mem_singleton, List.not_mem_nil, or_false, not_or]
          exact ⟨Nat.ne_of_lt (Nat.lt_succ_self _), Nat.ne_of_gt hlS⟩
        have hval : ∀ (i : Nat) (v : Value), items[i]? = some v → ∃ k t, ns[i]? = some k ∧ v = .int k t := fun i v hv => by
          have hi : i < ns.length := by rw [← hisz]; exact (Array.getElem?_eq_some_iff.mp hv).1
          obtain ⟨t, e⟩ := PyProof.Rows.IntsAre.int_at hit i v (by rw [Array.getElem?_toList]; exact hv)
          refine ⟨ns[i], t, List.getElem?_eq_getElem hi, ?_⟩
          rw [e, List.getD_eq_getElem?_getD, List.getElem?_eq_getElem hi] <;> rfl
        refine set_update_ints ((Walks.list hh3 _ l hneI items).toS) s.heap.objs.size
          hSf ns hisz hb hval (items.size - 0) 0 _ (by omega) (Nat.zero_le _)
          ⟨⟨_, Heap.get?_push_size _ rfl, rfl, rfl⟩, (hl1.push _)⟩ ?hS0 ?hR
        case hS0 =>
          have hget : ((s.heap.push { cls := .type "set", dict := none, data := .set #[] 0 (.fresh 0 0 (!w.params.followText "set-order")) }).push { cls := .type "list_iterator", data := .fields #[.ref l, .int 0 0] }).get? s.heap.objs.size
              = some { cls := .type "set", dict := none, data := .set #[] 0 (.fresh 0 0 (!w.params.followText "set-order")) } := Heap.get?_push_of_some _ hS
          exact ⟨0, Nat.le_refl 0, setR_new_at hget⟩
        case hR =>
          intro s' c' hm hc' hS'
          obtain ⟨h', g2, d', tk', os'⟩ := s'
          have eg : g2 = s.gens := hm.gens
          have ed : d' = s.drawn := hm.drawn
          have eo : os' = s.os := hm.os
          subst eg; subst ed; subst eo
          show wpAny _ _ _ _ _ _
          refine wpAny_pure ?_
          show wpAny _ _ (ret Value.none) _ _ _
          rw [hisz] at hc'
          refine wpAny_pure ⟨rfl, h', tk', c', rfl, hS', hc', fun b o e => ?_⟩
          have hb0 : b < s.heap.objs.size := Heap.lt_size e
          have hb1 : b ≠ s.heap.objs.size := Nat.ne_of_lt hb0
          have hb2 : b ≠ (s.heap.push { cls := .type "set", dict := none, data := .set #[] 0 (.fresh 0 0 (!w.params.followText "set-order")) }).objs.size := by
            rw [Heap.size_push]; exact Nat.ne_of_lt (Nat.lt_succ_of_lt hb0)
          exact hm.heap b o (by simp only [List.mem_cons, List.mem_singleton, List.not_mem_nil, or_false, not_or]; exact ⟨hb1, hb2⟩) (Heap.get?_push_of_some _ (Heap.get?_push_of_some _ e))

      · cases r₂ with
        | error e => exact hr₂
        | ok fl₂ =>
          cases fl₂ with
          | ret r =>
            obtain ⟨rfl, h', tk, c', rfl, hS', hc', hk'⟩ := hr₂
            repeat (any_goals (first | assumption | wp_step))
            exact h _ _ _ hS' hc' hk'
          | _ => exact hr₂.elim
    | _ => exact hr.elim

end
section
variable {X : Cx}
def rSetI (K : PySem.W.Frag) (w : World) : List V → Hp → VK → Prop := fun vs H Q => ∃ (a : Addr) (ns : List Int), vs = [V.ref a] ∧ (SqL K H a (ns.map V.int) ∨ SqT K H a (ns.map V.int)) ∧ ns.length ≤ 4000 ∧
  ∀ p, H p = none → Q (.ref p) (upd H p (SetO w p (fun j => decide (j ∈ ns)) (sdI ns).length))
theorem cr_setI (hc : X.calm = true) : CallR X (.type "set") (rSetI X.K X.w) := by
  intro pins s σ H vs us Q I r h
  obtain ⟨a, ns, rfl, hs, hl, q⟩ := h
  rw [Vals.ref1 r]
  have hb : ns.length + 1 < scanBound := by show ns.length + 1 < 4096; omega
  have fin : ∀ (h' : Heap) (tk c : Nat), SetR X.w h' s.heap.objs.size (fun j => decide (j ∈ ns)) c → c ≤ ns.length → (∀ b o, s.heap.get? b = some o → h'.get? b = some o) → EP X pins σ Q (.ref s.heap.objs.size) { s with heap := h', toks := tk } := by
    intro h' tk c R _ k
    have e := setR_size R
    subst e
    exact ⟨.ref _, _, I.laid (t' := tk) k (Nat.le_refl _) (setO_new R), rfl, q _ (I.hok.fresh (Nat.le_refl _))⟩
  rcases hs with hs | hs
  · obtain ⟨its, rv, hp, _⟩ := I.list hs
    exact call_set_lstI ns (I.ok.hd hc) hp.isList (by simpa using rv.ints) hb fin
  · obtain ⟨its, rv, hp, _⟩ := I.tuple hs
    exact call_set_tupI ns (I.ok.hd hc) hp (by simpa using rv.ints) hb fin
end
section
variable {G : GC}
def ssD (d : D) : Option D := ((itemsD d).bind intsD).bind fun ns => if ns.length ≤ 4000 ∧ (sdI ns).length < 64 then some (.lst ((sdI ns).map .int)) else none
theorem ev_ss {E : XK} {w : World} {fa : Fe} {σ : L2.St} {H : Hp} {Q : VK} (h : Ev G E (RE G) (f1 ssD fa) σ H Q) : tCB (rSortedSet w) (tCons (tCB (rSetI G.K w) (tCons (Ev G E (RB G) fa) tNil)) tNil) σ H Q := by
  obtain ⟨Hf, oa, ρ, τ, rel, a⟩ := h
  refine ⟨Hf, oa, ρ, τ, rel, a.bnd fun d1 τ1 x H1 Hf1 oa1 _ p1 g1 r1 a1 => ?_⟩
  obtain ⟨d, e, a3⟩ := a1.opt
  unfold ssD at e
  obtain ⟨ns, e1, e2⟩ := Option.bind_eq_some_iff.mp e
  obtain ⟨l, e3, e4⟩ := Option.bind_eq_some_iff.mp e1
  split at e2
  · rename_i hz
    cases e2
    obtain ⟨p, xs, rfl, h1, h2⟩ := bw_items g1.ex e3 r1
    have e4 := intsD_some e4
    subst e4
    have ex := h2.ints
    subst ex
    refine ⟨p, ns, rfl, h1, hz.1, fun q hq => ?_⟩
    have pu := Pure.newO (o := SetO w q (fun j => decide (j ∈ ns)) (sdI ns).length) g1.ex hq
    refine ⟨q, _, _, rfl, upd_same, hz.2, fun ms t hp hm hl ht => ?_⟩
    have em : ms = sdI ns := pw_same hp (pw_sdI ns) fun k => by
      rw [hm k, mem_sdI]
      simp
    subst em
    have g2 := g1.pure pu
    have pu2 := Pure.new (o := .lst ((sdI ns).map V.int)) g2.ex ht
    exact a3.pure g1 (pu.tr pu2) (rp_lst.mpr ⟨t, _, rfl, .inl upd_same, .of_ints⟩)
  · cases e2
end
end KF
set_option maxHeartbeats 4000000
/-! KFA: what a piece of text does, found by program: the function and the proof that the code does it. -/
namespace KF
open PySem PySem.Spec PyProof.Rows L2

/-! ### forms of expressions -/
def isStar : Expr → Bool
  | .Starred _ _ => true
  | _ => false
def isCompE : Expr → Bool
  | .ListComp .. => true
  | .SetComp .. => true
  | .DictComp .. => true
  | _ => false
def isSetE : Expr → Bool
  | .Set .. => true
  | _ => false
def isSlE : Expr → Bool
  | .Slice .. => true
  | _ => false
def isTestE : Expr → Bool
  | .UnaryOp .Not _ _ => true
  | .BoolOp .. => true
  | .IfExp .. => true
  | .Compare .. => true
  | _ => false
def isTupE : Expr → Bool
  | .Tuple .. => true
  | _ => false
def isCallE : Expr → Bool
  | .Call .. => true
  | _ => false
theorem star_no {e : Expr} (h : isStar e = false) (es : List Expr) (env : Env) : starEach (e :: es) env = (false, eval e env) :: starEach es env := by
  cases e <;> first | rfl | cases h
theorem comp_no {e : Expr} (h : isCompE e = false) (t : Option Expr) (l : Nat) (env : Env) : swapsWith e t l env = pure false := by
  cases e <;> first | rfl | cases h
theorem set_no {e : Expr} (h : isSetE e = false) (env : Env) (x : Value) : foldedSetIterable e env x = pure x := by
  cases e <;> first | rfl | cases h
theorem sl_no {e : Expr} (h : isSlE e = false) : PlainIx e := by
  intro o i
  cases e <;> first | rfl | cases h
theorem test_no {e : Expr} (h : isTestE e = false) (env : Env) : ∀ whole, isTrue e env whole = (do let v ← whole; standAt e.pos; holding [v] (truthy v)) := by
  intro whole
  cases e <;> first | rfl | cases h | skip
  rename_i op x p
  cases op <;> first | rfl | cases h
theorem call_no {e : Expr} (h : isCallE e = false) (f : Str) (env : Env) (w : Sem Value) : attributeBase e f env w = w := by
  cases e <;> first | rfl | cases h
theorem swap_no {tg v : Expr} (h : isTupE v = false) (env : Env) : swappedStores [tg] v env = pure none := by
  cases v <;> first | (cases tg <;> rfl) | cases h
theorem swap_name {x : Str} {p : Pos} {v : Expr} (env : Env) : swappedStores [.Name x p] v env = pure none := by
  cases v <;> rfl
theorem backTo_any {pos : Pos} : ∀ {l : List (Bool × Sem Value)}, l.all (fun x => !x.1) = true → (backTo pos l).any (·.1) = false
  | [], _ => rfl
  | (b, t) :: l, h => by
    rw [List.all_cons, Bool.and_eq_true] at h
    have hb : b = false := by simpa using h.1
    subst hb
    show (false || (backTo pos l).any (·.1)) = false
    rw [backTo_any h.2]
    rfl
theorem backTo_all {pos : Pos} : ∀ {l : List (Bool × Sem Value)}, l.all (fun x => !x.1) = true → (backTo pos l).all (fun x => !x.1) = true
  | [], _ => rfl
  | (b, t) :: l, h => by
    rw [List.all_cons, Bool.and_eq_true] at h
    show ((!b) && (backTo pos l).all (fun x => !x.1)) = true
    rw [backTo_all h.2, h.1]
    rfl
theorem star_all {env : Env} : ∀ {es : List Expr}, es.all (fun e => !isStar e) = true → (starEach es env).all (fun x => !x.1) = true
  | [], _ => rfl
  | e :: es, h => by
    rw [List.all_cons, Bool.and_eq_true] at h
    have hb : isStar e = false := by simpa using h.1
    rw [star_no hb, List.all_cons, star_all h.2]
    rfl
/-! ### names -/
def slotOf (x : Str) : List Str → Option Nat
  | [] => none
  | y :: l => if y = x then some 0 else (slotOf x l).map (· + 1)
theorem slotOf_some {x : Str} : ∀ {l : List Str} {i : Nat}, slotOf x l = some i → l[i]? = some x
  | [], _, e => by cases e
  | y :: l, i, e => by
    unfold slotOf at e
    split at e
    · rename_i h
      cases e
      rw [← h]
      rfl
    · obtain ⟨k, e1, rfl⟩ := Option.map_eq_some_iff.mp e
      simpa using slotOf_some e1
def visB (sc : Scope) (x : Str) : Bool := match sc.names.lookup x with
  | some .local => true
  | some .cell => true
  | some .free => true
  | _ => false
theorem visB_vis {sc : Scope} {x : Str} (h : visB sc x = true) : Vis sc x := by
  unfold visB at h
  split at h
  · rename_i e; exact .inl e
  · rename_i e; exact .inr (.inl e)
  · rename_i e; exact .inr (.inr e)
  · cases h
def locB (sc : Scope) (fn : Str → Bool) (x : Str) : Bool := match sc.names.lookup x with
  | some .local => true
  | some .cell => fn x
  | _ => false
theorem locB_loc {sc : Scope} {fn : Str → Bool} {x : Str} (h : locB sc fn x = true) : Loc sc x ∧ (fn x = true ∨ sc.names.lookup x = some .local) := by
  unfold locB at h
  split at h
  · rename_i e; exact ⟨.inl e, .inr e⟩
  · rename_i e; exact ⟨.inr e, .inl h⟩
  · cases h
def glB (sc : Scope) (x : Str) : Bool := match sc.names.lookup x with
  | some .globalImplicit => true
  | _ => false
theorem glB_gl {sc : Scope} {x : Str} (h : glB sc x = true) : sc.names.lookup x = some .globalImplicit := by
  unfold glB at h
  split at h
  · rename_i e; exact e
  · cases h
def okName (x : Str) : Bool := !(x == ("__debug__" : Str)) && !(x == ("__classdict__" : Str))
theorem okName_1 {x : Str} (h : okName x = true) : (x == ("__debug__" : Str)) = false ∧ (x == ("__classdict__" : Str)) = false := by
  unfold okName at h
  simpa using h

/-! ### the tables -/
structure Par where
  N : List Str
  own : List Nat
  k : Nat
  fns : List (Str × Nat × List Str)
  cst : List (Str × D)
  exs : List XC
  Φ : Nat → List D → M D
  nm : Nat → Str
  T : List (Addr × Str)
  kf : Nat
  dct : List Nat
  kw : List (Str × Nat)
structure Ctx where
  sc : Scope
  fn : Str → Bool
  lam : Bool
  xk : Bool
def gc (P : Par) (X : Cx) : GC := ⟨X.K, X.mg, P.nm, P.T, X.w⟩
def blts : List Str := ["len", "abs", "min", "max", "any", "all", "sum", "list", "tuple", "isinstance", "int", "bool", "str", "sorted", "set", "range", "zip", "enumerate", "dict", "ValueError"]
structure FnIn (P : Par) (X : Cx) (x : Str) (id : Nat) (ps : List Str) : Prop where
  nm : P.nm id = x
  ex : ∃ f fd, X.mg x = some (.ref f) ∧ PySem.W.keepIn X.K (.ref f) = true ∧ Binds X.K fd ps [] ∧ FnOk X.prog X.w X.K X.mg X.base (L2.CX X.prog X.w) P.kf f fd ps (SpOf (gc P X) (P.Φ id) ps.length) ∧ ∀ n, (x, n) ∈ P.kw → KBn X.K fd ps n (ps.drop n) (fun us ws => us ++ ws) (fun us ws => us ++ ws)
/-- an own exception class over ValueError -/
structure ExF (K : PySem.W.Frag) (mg : Str → Option Value) (x : Str) : Prop where
  ex : ∃ C, mg x = some (.ref C) ∧ PySem.W.excIn K C [.type "ValueError", .type "Exception", .type "BaseException", .type "object"] "ValueError.__new__" = true ∧ PySem.W.keepIn K (.ref C) = true ∧ PySem.W.subIn K (.ref C) (.type "BaseException") = some true ∧ PySem.W.typeIn K (.ref C) = some (.type "type")
def xcAll : List XC := [.cannot, .finger, .fingering, .hand, .keys, .note, .passage, .pattern, .place, .step, .text, .times, .played, .undo, .long]
theorem xcAll_mem (c : XC) : c ∈ xcAll := by cases c <;> simp [xcAll]
/-- what is known of the package's exception classes -/
structure XK1 (K : PySem.W.Frag) (mg : Str → Option Value) (xs : List XC) : Prop where
  cls : ∀ c ∈ xs, ∃ C, mg (nameX c) = some (.ref C) ∧ ExcC K C
  kit : ∀ c ∈ xs, ∀ c' ∈ xs, ∀ C C', mg (nameX c) = some (.ref C) → mg (nameX c') = some (.ref C') → PySem.W.kitOne K (.ref C) (.ref C') = some (decide (c = c'))
  val : ∀ c ∈ xs, ∀ C, mg (nameX c) = some (.ref C) → PySem.W.kitOne K (.ref C) (.type "ValueError") = some true
/-- how a call ended, told -/
def tagX : XC → Str
  | .cannot => "cannot" | .finger => "which" | .fingering => "fingers" | .hand => "hand" | .keys => "keys" | .note => "tone" | .passage => "notes"
  | .pattern => "rows" | .place => "spot" | .step => "by" | .text => "text" | .times => "count" | .played => "empty" | .undo => "undo" | .long => "long"
def resM (m : M D) : M D := fun τ => match m τ with
  | .ok d t => .ok (.tup [.str "returns", d]) t
  | .exc c t => .ok (.tup [.str (tagX c)]) t
  | .stuck => .stuck
def fRes (f : Fe) : Fe := fun ρ => resM (f ρ)
/-- what the def makes of the lambda's reading tl -/
def TTr (G : GC) : (XK → Hp → VK → Prop) → Hp → VK → Prop := fun tl H Q =>
  ∃ Hf oa τ m, Good G Hf oa τ H ∧ (∀ (E : XK) (Q' : VK) (Hf1 H1 : Hp), Pure Hf H Hf1 H1 → At G E (RE G) m Hf1 oa τ H1 Q' → tl E H1 Q') ∧ At G (fun _ _ _ => False) (RE G) (resM m) Hf oa τ H Q
/-- what is known for calls of the def that takes a lambda -/
structure LamM (P : Par) (K : PySem.W.Frag) (mg : Str → Option Value) (w : World) : Prop where
  res : ∃ (g : Addr) (Ng : List Str) (sg : Scope) (bg : List Stmt) (pg : Arguments) (dV kV doc pm cdv ct oc : Value) (an od : Option Addr) (osl : Array (Option Value)), mg "_law_result" = some (.ref g) ∧ PySem.W.keepIn K (.ref g) = true ∧
    K.lookup g = some ⟨oc, od, .func (PySem.W.fnOf "_law_result" "_law_result" pg bg sg dV kV doc pm an cdv ct), osl⟩ ∧ PySem.W.codeIn K cdv "_law_result" = true ∧ L2.Binds K (PySem.W.fnOf "_law_result" "_law_result" pg bg sg dV kV doc pm an cdv ct) ["call"] [] ∧ FnScope Ng ["call"] sg ∧
    ∀ X : Cx, X.K = K → X.mg = mg → X.w = w → Room (P.kf + 2) X.A → ∀ q, LamX.GivesTo X Ng "_law_result" sg g cdv bg "call" q (TTr ⟨K, mg, P.nm, P.T, w⟩)
  two : P.kf + 2 ≤ P.k
structure LamOk (P : Par) (X : Cx) : Prop where
  m : LamM P X.K X.mg X.w
  tab : ∃ cC PT, X.env.code = .ref cC ∧ LamX.TabB X.base X.mg cC PT ∧ (PT, X.env.qual ++ "<lambda>") ∈ P.T ∧ ∀ p ∈ P.T, p.1 = PT → p.2 = X.env.qual ++ "<lambda>"
structure XOk (P : Par) (c : Ctx) (X : Cx) (E : XK) : Prop where
  scp : X.env.scope = c.sc
  nms : X.N = P.N
  nd : P.N.Nodup
  calm : X.calm = true
  room : Room P.k X.A
  tk : Takes X (fun cls d _ H => E cls d H)
  own : PassesOwn (model X.prog X.w) X.A X.env X.xe
  fn : ∀ x, c.fn x = true → X.fn x = true
  blt : ∀ x ∈ blts, X.mg x = none
  cst : ∀ p ∈ P.cst, ∃ v u, X.mg p.1 = some u ∧ RelV v u ∧ (∀ oa Hf, Rp (gc P X) oa Hf p.2 v) ∧ ∀ H, tyV X.K "tuple" v H
  fns : ∀ e ∈ P.fns, FnIn P X e.1 e.2.1 e.2.2
  exs : ∀ c ∈ P.exs, ExF X.K X.mg (nameX c)
  kle : P.kf ≤ P.k
  lam : c.lam = true → LamOk P X
  xk : c.xk = true → XK1 X.K X.mg xcAll
theorem XOk.pass {P : Par} {c : Ctx} {X : Cx} {E : XK} (o : XOk P c X E) : Passes (L2.CX X.prog X.w) X E := passes_call o.tk fun _ _ _ _ h => h
structure CE (P : Par) (c : Ctx) (e : Expr) where
  f : Fe
  ok : ∀ X E, XOk P c X E → PE X e (Ev (gc P X) E (RE (gc P X)) f)
structure CB (P : Par) (c : Ctx) (e : Expr) where
  f : Fe
  ok : ∀ X E, XOk P c X E → PE X e (Ev (gc P X) E (RB (gc P X)) f)
structure CT (P : Par) (c : Ctx) (e : Expr) where
  f : Ft
  ok : ∀ X E, XOk P c X E → PT X e (Ev (gc P X) E RT f)
structure CW (P : Par) (c : Ctx) (e : Expr) where
  f : Ft
  ok : ∀ X E, XOk P c X E → PW X e (Ev (gc P X) E RT f)
structure CA (P : Par) (c : Ctx) (es : List Expr) where
  f : Fa
  ok : ∀ X E, XOk P c X E → PA X es (Ev (gc P X) E (RA (gc P X)) f)
structure CAB (P : Par) (c : Ctx) (es : List Expr) where
  f : Fa
  ok : ∀ X E, XOk P c X E → PA X es (Ev (gc P X) E (RAB (gc P X)) f)
structure CO (P : Par) (c : Ctx) (e : Option Expr) where
  f : En → M (Option Int)
  ok : ∀ X E, XOk P c X E → PO X e (Ev (gc P X) E RP f)
structure CI (P : Par) (c : Ctx) (tg e : Expr) where
  f : En → M (List D)
  ok : ∀ X E, XOk P c X E → PI X tg e (Ev (gc P X) E (RI (gc P X)) f)
structure CG (P : Par) (c : Ctx) (e : Expr) where
  t : Tg
  ok : ∀ X E, XOk P c X E → PG X e (gT X.K t)
structure CGs (P : Par) (c : Ctx) (es : List Expr) where
  ts : List Tg
  ok : ∀ X E, XOk P c X E → PGs X es (gTs X.K ts)
  len : ∀ env, (assignEach es env).length = ts.length
  st : ∀ env, (assignEach es env).findIdx? (·.1) = none
theorem XOk.gl {P : Par} {c : Ctx} {X : Cx} {E : XK} (h : XOk P c X E) {x : Str} (g : glB c.sc x = true) : Gl X x := by
  unfold Gl Env.kindOf
  rw [h.scp]
  exact glB_gl g
theorem XOk.units {P : Par} {c : Ctx} {X : Cx} {E : XK} (h : XOk P c X E) : X.A.units + 64 < cLine := h.room.units
section
variable {P : Par} {c : Ctx}
/-! ### names, constants -/
def mkInt (i : Int) (k : Nat) (pos : Pos) : CE P c (.Constant (.int i) k pos) := ⟨fC (.int i), fun _ _ _ => PE.mono pe_int fun _ _ _ q => ev_c q fun _ _ => rp_int.mpr rfl⟩
def mkBl (i : Bool) (k : Nat) (pos : Pos) : CE P c (.Constant (.bool i) k pos) := ⟨fC (.bl i), fun _ _ _ => PE.mono pe_bl fun _ _ _ q => ev_c q fun _ _ => rp_bl.mpr rfl⟩
def mkNon (k : Nat) (pos : Pos) : CE P c (.Constant .none k pos) := ⟨fC .non, fun _ _ _ => PE.mono pe_non fun _ _ _ q => ev_c q fun _ _ => rp_non.mpr rfl⟩
def mkStr (i : Str) (k : Nat) (pos : Pos) : CE P c (.Constant (.str i) k pos) := ⟨fC (.str i), fun _ _ _ => PE.mono pe_str fun _ _ _ q => ev_c q fun _ _ => rp_str.mpr rfl⟩
def mkVar (x : Str) (pos : Pos) : Option (CE P c (.Name x pos)) :=
  match e : slotOf x P.N with
  | none => none
  | some i => if h : visB c.sc x = true ∧ okName x = true then some ⟨fVar i, fun X E o => PE.mono (pe_var (i := i) (by rw [o.nms]; exact slotOf_some e) (by rw [o.scp]; exact visB_vis h.1) (okName_1 h.2).1 (okName_1 h.2).2) fun _ _ _ q => ev_var q⟩ else none
def mkBor (x : Str) (pos : Pos) : Option (CB P c (.Name x pos)) :=
  match e : slotOf x P.N with
  | none => none
  | some i => if h : visB c.sc x = true ∧ okName x = true then some ⟨fBor i, fun X E o => PE.mono (pe_var (i := i) (by rw [o.nms]; exact slotOf_some e) (by rw [o.scp]; exact visB_vis h.1) (okName_1 h.2).1 (okName_1 h.2).2) fun _ _ _ q => ev_bor q⟩ else none
def mkCst (x : Str) (pos : Pos) : Option (CE P c (.Name x pos)) :=
  match e : P.cst.lookup x with
  | none => none
  | some d => if h : glB c.sc x = true ∧ okName x = true then some ⟨fC d, fun X E o => ⟨fun pins s σ H Q I q => by
      obtain ⟨v, u, h1, h2, h3, _⟩ := o.cst (x, d) (PySem.mem_of_lookup e)
      exact (pe_glob (o.gl h.1) h1 h2 (okName_1 h.2).1).run pins s σ H Q I (ev_c q h3)⟩⟩ else none
def mkFn (x : Str) (pos : Pos) : Option (CE P c (.Name x pos)) :=
  match e : P.fns.lookup x with
  | none => none
  | some (id, ps) => if h : glB c.sc x = true ∧ okName x = true then some ⟨fC (.fn id), fun X E o => ⟨fun pins s σ H Q I q => by
      have fi := o.fns (x, id, ps) (PySem.mem_of_lookup e)
      obtain ⟨f, fd, h1, _⟩ := fi.ex
      have hn : P.nm id = x := fi.nm
      exact (pe_glob (v := .ref f) (o.gl h.1) h1 rfl (okName_1 h.2).1).run pins s σ H Q I (ev_c q fun _ _ => rp_fn.mpr ⟨f, rfl, by show X.mg (P.nm id) = _; rw [hn]; exact h1⟩)⟩⟩ else none
def orElse' {α : Type} (a b : Option α) : Option α := match a with
  | some x => some x
  | none => b
def mkName (x : Str) (pos : Pos) : Option (CE P c (.Name x pos)) := orElse' (mkVar x pos) (orElse' (mkCst x pos) (mkFn x pos))
def toB' {e : Expr} (a : CE P c e) : CB P c e := ⟨a.f, fun X E o => PE.look (a.ok X E o)⟩
/-! ### operators -/
def mkBin {a b : Expr} (op : Operator) (pos : Pos) (A : CB P c a) (B : CB P c b) : Option (CE P c (.BinOp a op b pos)) :=
  match op with
  | .Add => some ⟨f2 gAdd A.f B.f, fun X E o => PE.mono (pe_op op_addA (A.ok X E o) (B.ok X E o)) fun _ _ _ q => ev_op (G := gc P X) vr_add q⟩
  | .Sub => some ⟨f2 gSub A.f B.f, fun X E o => PE.mono (pe_op op_sub (A.ok X E o) (B.ok X E o)) fun _ _ _ q => ev_op (G := gc P X) vr_sub q⟩
  | .Mult => some ⟨f2 gMul A.f B.f, fun X E o => PE.mono (pe_op op_mulA (A.ok X E o) (B.ok X E o)) fun _ _ _ q => ev_op (G := gc P X) vr_mul q⟩
  | .FloorDiv => some ⟨f2 gDiv A.f B.f, fun X E o => PE.mono (pe_op op_fdiv (A.ok X E o) (B.ok X E o)) fun _ _ _ q => ev_op (G := gc P X) vr_div q⟩
  | .Mod => some ⟨f2 gMod A.f B.f, fun X E o => PE.mono (pe_op op_mod (A.ok X E o) (B.ok X E o)) fun _ _ _ q => ev_op (G := gc P X) vr_mod q⟩
  | .Pow => some ⟨f2 gPow A.f B.f, fun X E o => PE.mono (pe_op op_pow (A.ok X E o) (B.ok X E o)) fun _ _ _ q => ev_op (G := gc P X) vr_pow q⟩
  | _ => none
/-- a comparison's rule -/
structure OpC (op : CmpOp) where
  g : D → D → Option D
  r : PySem.W.Frag → R2
  ho : ∀ X : Cx, X.A.units + 65 < cLine → OpR X (compareOp op) (r X.K)
  hv : ∀ G : GC, VR2 G (r G.K) g
def opC : (op : CmpOp) → Option (OpC op)
  | .Eq => some ⟨gEq, rEqD, fun X h => op_eqD (by omega), fun _ => vr_eq⟩
  | .NotEq => some ⟨gNe, rNeD, fun X h => op_neD (by omega), fun _ => vr_ne⟩
  | .Lt => some ⟨gLt, fun _ => rI0 fun i j => .bl (decide (i < j)), fun X h => op_lt, fun _ => vr_lt⟩
  | .LtE => some ⟨gLe, fun _ => rI0 fun i j => .bl (decide (i ≤ j)), fun X h => op_le, fun _ => vr_le⟩
  | .Gt => some ⟨gGtI, fun _ => rI0 fun i j => .bl (decide (j < i)), fun X h => op_gt, fun _ => vr_gtI⟩
  | .GtE => some ⟨gGe, fun _ => rI0 fun i j => .bl (decide (j ≤ i)), fun X h => op_ge, fun _ => vr_ge⟩
  | .In => some ⟨gIn, rInA, fun X h => op_inA h, fun _ => vr_in⟩
  | .NotIn => some ⟨gNotIn, rNotInA, fun X h => op_notInA h, fun _ => vr_notIn⟩
  | .Is => some ⟨gIs, fun _ => fun x y H Q => y = .non ∧ Q (.bl (decide (x = .non))) H, fun X h => op_isN, fun _ => vr_is⟩
  | .IsNot => some ⟨gIsNot, fun _ => fun x y H Q => y = .non ∧ Q (.bl (!decide (x = .non))) H, fun X h => op_notN, fun _ => vr_isNot⟩
theorem mark_no {b : Expr} (h : isSetE b = false) (op : CmpOp) : behindInMarks op b = false := by
  cases b <;> first | rfl | cases h
def mkCmp {a b : Expr} (op : CmpOp) (pos : Pos) (A : CB P c a) (B : CB P c b) : Option (CE P c (.Compare a [op] [b] pos)) :=
  match opC op with
  | none => none
  | some o => if h : isSetE b = false then some ⟨f2 o.g A.f B.f, fun X E k => PE.mono (pe_cmpR (o.ho X (by have := k.room.un; omega)) (A.ok X E k) (B.ok X E k) (mark_no h op)) fun _ _ _ q => ev_op (G := gc P X) (o.hv _) q⟩ else none
def mkChain {a b d : Expr} (op op' : CmpOp) (pos : Pos) (A : CB P c a) (B : CB P c b) (C : CB P c d) : Option (CE P c (.Compare a [op, op'] [b, d] pos)) :=
  match opC op, opC op' with
  | some o, some o' => if h : isSetE d = false then some ⟨fChain o.g o'.g A.f B.f C.f, fun X E k => PE.mono (pe_chain (o.ho X (by have := k.room.un; omega)) (o'.ho X (by have := k.room.un; omega)) (A.ok X E k) (B.ok X E k) (C.ok X E k) (mark_no h op')) fun _ _ _ q => ev_chain (G := gc P X) (o.hv _) (o'.hv _) q⟩ else none
  | _, _ => none
def mkNeg {a : Expr} (pos : Pos) (A : CB P c a) : CE P c (.UnaryOp .USub a pos) := ⟨f1 gNeg A.f, fun X E o => PE.mono (pe_un un_neg (A.ok X E o)) fun _ _ _ q => ev_un (G := gc P X) vr_neg q⟩
def mkNotV {a : Expr} (pos : Pos) (A : CE P c a) : CE P c (.UnaryOp .Not a pos) := ⟨fNotV A.f, fun X E o => PE.mono (pe_not (A.ok X E o)) fun _ _ _ q => ev_notV q⟩
/-- a and b .., a or b .. as values -/
def mkBoolV (op : BoolOp) (pos : Pos) (rec : (e : Expr) → Option (CE P c e)) : (es : List Expr) → Option (CE P c (.BoolOp op es pos))
  | [] => none
  | [a] => match rec a with
    | none => none
    | some A => some ⟨A.f, fun X E o => pe_one (A.ok X E o)⟩
  | a :: b :: r => match rec a, mkBoolV op pos rec (b :: r) with
    | some A, some B => match op with
      | .And => some ⟨fAndV A.f B.f, fun X E o => PE.mono (pe_and (A.ok X E o) (B.ok X E o)) fun _ _ _ q => ev_andV q⟩
      | .Or => some ⟨fOrV A.f B.f, fun X E o => PE.mono (pe_or (A.ok X E o) (B.ok X E o)) fun _ _ _ q => ev_orV q⟩
    | _, _ => none
def mkBoolT (op : BoolOp) (pos : Pos) (rec : (e : Expr) → Option (CT P c e)) : (es : List Expr) → Option (CW P c (.BoolOp op es pos))
  | [] => none
  | [a] => match rec a with
    | none => none
    | some A => match op with
      | .And => some ⟨A.f, fun X E o => pw_and1 (A.ok X E o)⟩
      | .Or => some ⟨A.f, fun X E o => pw_or1 (A.ok X E o)⟩
  | a :: b :: r => match rec a, mkBoolT op pos rec (b :: r) with
    | some A, some B => match op with
      | .And => some ⟨fAnd A.f B.f, fun X E o => PW.mono (pw_and (A.ok X E o) (B.ok X E o)) fun _ _ _ q => ev_and q⟩
      | .Or => some ⟨fOr A.f B.f, fun X E o => PW.mono (pw_or (A.ok X E o) (B.ok X E o)) fun _ _ _ q => ev_or q⟩
    | _, _ => none
def mkIf {t a b : Expr} (pos : Pos) (C : CT P c t) (A : CE P c a) (B : CE P c b) : CE P c (.IfExp t a b pos) := ⟨fIfE C.f A.f B.f, fun X E o => PE.mono (pe_ifExp (C.ok X E o) (A.ok X E o) (B.ok X E o)) fun _ _ _ q => ev_if q⟩
/-! ### arguments -/
def mkArgs (rec : (e : Expr) → Option (CE P c e)) : (es : List Expr) → Option (CA P c es)
  | [] => some ⟨fNil, fun X E o => PA.mono pa_nil fun _ _ _ q => ev_nil q⟩
  | e :: es => match rec e, mkArgs rec es with
    | some A, some B => if h : isStar e = false then some ⟨fCons A.f B.f, fun X E o => PA.mono (pa_cons (A.ok X E o) (B.ok X E o) (star_no h es _)) fun _ _ _ q => ev_cons q⟩ else none
    | _, _ => none
def mkArgsB (rec : (e : Expr) → Option (CB P c e)) : (es : List Expr) → Option (CAB P c es)
  | [] => some ⟨fNil, fun X E o => PA.mono pa_nil fun _ _ _ q => ev_nilB q⟩
  | e :: es => match rec e, mkArgsB rec es with
    | some A, some B => if h : isStar e = false then some ⟨fCons A.f B.f, fun X E o => PA.mono (pa_cons (A.ok X E o) (B.ok X E o) (star_no h es _)) fun _ _ _ q => ev_consB q⟩ else none
    | _, _ => none
/-- a call of a def of the module -/
def fCall (Φ : Nat → List D → M D) (id n : Nat) (fa : Fa) : Fe := fun ρ => M.bnd (fa ρ) fun ds => if ds.length = n then Φ id ds else M.fail
theorem ev_call {G : GC} {E : XK} {Φ : Nat → List D → M D} {id n : Nat} {fa : Fa} {σ : L2.St} {H : Hp} {Q : VK} (h : Ev G E (RE G) (fCall Φ id n fa) σ H Q) : tCall (SpOf G (Φ id) n) [] E (Ev G E (RA G) fa) σ H Q := by
  obtain ⟨Hf, oa, ρ, τ, rel, a⟩ := h
  refine ⟨Hf, oa, ρ, τ, rel, a.bnd fun ds τ1 vs H1 Hf1 oa1 _ p1 g1 r1 a1 => ?_⟩
  obtain ⟨hl, a2⟩ := At.ite a1
  show SpOf G (Φ id) n (vs ++ []) H1 Q E
  rw [List.append_nil]
  exact ⟨by rw [RpA.length r1]; exact hl, Hf1, oa1, ds, τ1, g1, r1, a2⟩
def starOk (es : List Expr) : Bool := es.all fun e => !isStar e
theorem starOk_cons {e : Expr} {es : List Expr} (h : starOk (e :: es) = true) : isStar e = false ∧ starOk es = true := by
  unfold starOk at h
  rw [List.all_cons, Bool.and_eq_true] at h
  exact ⟨by simpa using h.1, h.2⟩
def mkCall (x : Str) (p pos : Pos) {e : Expr} {es : List Expr} (A : CA P c (e :: es)) : Option (CE P c (.Call (.Name x p) (e :: es) [] pos)) :=
  match hl : P.fns.lookup x with
  | none => none
  | some (id, ps) => if h : glB c.sc x = true ∧ okName x = true ∧ starOk (e :: es) = true then some ⟨fCall P.Φ id ps.length A.f, fun X E o => ⟨fun pins s σ H Q I q => by
      have fi := o.fns (x, id, ps) (PySem.mem_of_lookup hl)
      obtain ⟨f, fd, h1, h2, h3, h4, _⟩ := fi.ex
      have st := starOk_cons h.2.2
      exact (pe_call h4 (o.room.mono o.kle) (o.gl h.1) h1 h2 h3 .nil o.pass (A.ok X E o) (okName_1 h.2.1).1 (star_no st.1 es _) (backTo_any (star_all st.2))).run pins s σ H Q I (ev_call q)⟩⟩ else none
def mkCall0 (x : Str) (p pos : Pos) : Option (CE P c (.Call (.Name x p) [] [] pos)) :=
  match hl : P.fns.lookup x with
  | none => none
  | some (id, ps) => if h : glB c.sc x = true ∧ okName x = true then some ⟨fCall P.Φ id ps.length fNil, fun X E o => ⟨fun pins s σ H Q I q => by
      have fi := o.fns (x, id, ps) (PySem.mem_of_lookup hl)
      obtain ⟨f, fd, h1, h2, h3, h4, _⟩ := fi.ex
      refine (pe_call0 h4 (o.room.mono o.kle) (o.gl h.1) h1 h2 h3 .nil o.pass (okName_1 h.2).1).run pins s σ H Q I ?_
      obtain ⟨Hf, oa, ρ, τ, rel, a⟩ := q
      have a : At (gc P X) E (RE (gc P X)) (if ([] : List D).length = ps.length then P.Φ id [] else M.fail) Hf oa τ H Q := a
      obtain ⟨hz, a2⟩ := At.ite a
      exact ⟨hz, Hf, oa, [], τ, rel.good, rpa_nil.mpr rfl, a2⟩⟩⟩ else none
/-! ### built-ins by name -/
structure BltC (P : Par) (c : Ctx) (x : Str) (e : Expr) (es : List Expr) where
  g : List D → Option D
  ok : ∀ X E, XOk P c X E → ∀ (t : TA) (p pos : Pos), Gl X x → (x == ("__debug__" : Str)) = false → starEach (e :: es) X.env = (false, eval e X.env) :: starEach es X.env → (backTo pos (starEach es X.env)).any (·.1) = false → PA X (e :: es) t → ∃ r, VRA (gc P X) r g ∧ PE X (.Call (.Name x p) (e :: es) [] pos) (tCB r t)
end
end KF
set_option maxHeartbeats 4000000
/-! KFB: the compiler, expressions (2). -/
namespace KF
open PySem PySem.Spec PyProof.Rows L2
section
variable {P : Par} {c : Ctx}
/-! ### built-ins -/
def bltG (x : Str) : Option (List D → Option D) :=
  if x = "len" then some gLen else if x = "abs" then some gAbs else if x = "min" then some gMin2 else if x = "max" then some gMax2 else if x = "any" then some gAny else
  if x = "all" then some gAll else if x = "sum" then some gSum else if x = "list" then some gList else if x = "tuple" then some gTuple else none
theorem bltG_ok {X : Cx} {E : XK} (o : XOk P c X E) {x : Str} {g : List D → Option D} (h : bltG x = some g) : X.mg x = none ∧ x ≠ "__name__" ∧ (x == ("__debug__" : Str)) = false ∧
    ∃ r, VRA (gc P X) r g ∧ ((∃ id, CallR X (.builtin id) r ∧ bootBuiltins x = some (.builtin id)) ∨ ∃ T, CallR X (.type T) r ∧ bootBuiltins x = some (.type T)) := by
  unfold bltG at h
  split at h
  · rename_i e; cases h; subst e
    exact ⟨o.blt _ (by decide), by decide, by decide, _, vr_len (G := gc P X), .inl ⟨_, call_lenA, boot_len⟩⟩
  split at h
  · rename_i e; cases h; subst e
    exact ⟨o.blt _ (by decide), by decide, by decide, _, vr_abs (G := gc P X), .inl ⟨_, call_abs, boot_abs⟩⟩
  split at h
  · rename_i e; cases h; subst e
    exact ⟨o.blt _ (by decide), by decide, by decide, _, vr_min2 (G := gc P X), .inl ⟨_, call_min2 o.calm, boot_min⟩⟩
  split at h
  · rename_i e; cases h; subst e
    exact ⟨o.blt _ (by decide), by decide, by decide, _, vr_max2 (G := gc P X), .inl ⟨_, call_max2 o.calm, boot_max⟩⟩
  split at h
  · rename_i e; cases h; subst e
    exact ⟨o.blt _ (by decide), by decide, by decide, _, vr_any (G := gc P X), .inl ⟨_, cr_any o.calm, boot_any⟩⟩
  split at h
  · rename_i e; cases h; subst e
    exact ⟨o.blt _ (by decide), by decide, by decide, _, vr_all (G := gc P X), .inl ⟨_, cr_all o.calm, boot_all⟩⟩
  split at h
  · rename_i e; cases h; subst e
    exact ⟨o.blt _ (by decide), by decide, by decide, _, vr_sum (G := gc P X), .inl ⟨_, cr_sum o.calm, boot_sum⟩⟩
  split at h
  · rename_i e; cases h; subst e
    exact ⟨o.blt _ (by decide), by decide, by decide, _, vr_list (G := gc P X), .inr ⟨_, call_list_of, boot_list⟩⟩
  split at h
  · rename_i e; cases h; subst e
    exact ⟨o.blt _ (by decide), by decide, by decide, _, vr_tuple (G := gc P X), .inr ⟨_, call_tuple_of, boot_tuple⟩⟩
  · cases h
def mkBlt (x : Str) (p pos : Pos) {e : Expr} {es : List Expr} (A : CAB P c (e :: es)) : Option (CE P c (.Call (.Name x p) (e :: es) [] pos)) :=
  match hb : bltG x with
  | none => none
  | some g => if h : glB c.sc x = true ∧ starOk (e :: es) = true then some ⟨fN g A.f, fun X E o => by
      obtain ⟨h1, h2, h3, r, hv, hc⟩ := bltG_ok o hb
      have st := starOk_cons h.2
      rcases hc with ⟨id, hc, hbt⟩ | ⟨T, hc, hbt⟩
      · exact PE.mono (pe_callB hc (o.gl h.1) h1 hbt (A.ok X E o) h2 h3 (star_no st.1 es _) (backTo_any (star_all st.2))) fun _ _ _ q => ev_callB hv q
      · exact PE.mono (pe_callTy hc (o.gl h.1) h1 hbt (A.ok X E o) h2 h3 (star_no st.1 es _) (backTo_any (star_all st.2))) fun _ _ _ q => ev_callB hv q⟩ else none
theorem XOk.mg {X : Cx} {E : XK} (o : XOk P c X E) {x : Str} (h : blts.contains x = true) : X.mg x = none := o.blt x (by simpa using h)
/-- isinstance(a, T) -/
def isiOk (T : Str) : Option String := if T = "int" then some "int" else if T = "bool" then some "bool" else if T = "tuple" then some "tuple" else if T = "str" then some "str" else none
theorem isiOk_ok {T : Str} {n : String} (h : isiOk T = some n) : bootBuiltins T = some (.type n) ∧ blts.contains T = true ∧ T ≠ "__name__" ∧ (T == ("__debug__" : Str)) = false := by
  unfold isiOk at h
  split at h
  · rename_i e; cases h; subst e; exact ⟨boot_int, by decide, by decide, by decide⟩
  split at h
  · rename_i e; cases h; subst e; exact ⟨boot_bool, by decide, by decide, by decide⟩
  split at h
  · rename_i e; cases h; subst e; exact ⟨boot_tuple, by decide, by decide, by decide⟩
  split at h
  · rename_i e; cases h; subst e; exact ⟨boot_str, by decide, by decide, by decide⟩
  · cases h
def mkIsi (x : Str) (p pos : Pos) {a : Expr} (A : CB P c a) (T : Str) (p2 : Pos) : Option (CE P c (.Call (.Name x p) [a, .Name T p2] [] pos)) :=
  if hx : x = "isinstance" then
    match hT : isiOk T with
    | none => none
    | some n => if h : glB c.sc x = true ∧ glB c.sc T = true ∧ isStar a = false then some ⟨fIsi n A.f, fun X E o => by
      subst hx
      obtain ⟨h1, h2, h3, h4⟩ := isiOk_ok hT
      exact PE.mono (pe_callB call_isi (o.gl h.1) (o.mg (by decide)) boot_isinstance (pa_cons (A.ok X E o) (pa_cons (pe_bltn (v := .ty n) (o.gl h.2.1) (o.mg h2) h1 rfl h3 h4) pa_nil (star_no rfl _ _)) (star_no h.2.2 _ _)) (by decide) (by decide) (star_no h.2.2 _ _) (backTo_any (star_all rfl))) fun _ _ _ q => ev_isi (G := gc P X) q⟩ else none
  else none
/-- sorted(set(a)) -/
def mkSS (x y : Str) (p pos p2 pos2 : Pos) {a : Expr} (A : CB P c a) : Option (CE P c (.Call (.Name x p) [.Call (.Name y p2) [a] [] pos2] [] pos)) :=
  if h : x = "sorted" ∧ y = "set" ∧ glB c.sc x = true ∧ glB c.sc y = true ∧ isStar a = false then some ⟨f1 ssD A.f, fun X E o => by
    obtain ⟨h1, h2, h3, h4, h5⟩ := h
    subst h1 h2
    exact PE.mono (pe_callB (cr_sortedSet o.calm) (o.gl h3) (o.mg (by decide)) boot_sorted (pa_cons (pe_callTy (cr_setI o.calm) (o.gl h4) (o.mg (by decide)) boot_set (pa_cons (A.ok X E o) pa_nil (star_no h5 _ _)) (by decide) (by decide) (star_no h5 _ _) (backTo_any (star_all rfl))) pa_nil (star_no rfl _ _)) (by decide) (by decide) (star_no rfl _ _) (backTo_any (star_all rfl))) fun _ _ _ q => ev_ss (G := gc P X) q⟩ else none
theorem few_ok {cpos : Pos} {es : List Expr} {env : Env} (h : starOk es = true) (hn : es.length < 30) : ((backTo cpos (starEach es env)).all (fun x => !x.1) && (backToKw cpos (keywordEach [] env)).all (fun x => x.1.isSome) && decide (es.length + ([] : List Keyword).length + (if ([] : List Keyword).isEmpty then 0 else 1) < 30)) = true := by
  rw [backTo_all (star_all h)]
  simp only [Bool.true_and, Bool.and_eq_true]
  refine ⟨rfl, ?_⟩
  simp only [List.length_nil, List.isEmpty_nil, if_true, Nat.add_zero, decide_eq_true_eq]
  exact hn
/-- C.index(a), C a constant -/
def cstOf (P : Par) (x : Str) : Option (List D) := match P.cst.lookup x with
  | some (.tup l) => some l
  | _ => none
theorem cstOf_ok {x : Str} {l : List D} (h : cstOf P x = some l) : P.cst.lookup x = some (.tup l) := by
  unfold cstOf at h
  split at h
  · rename_i e; cases h; exact e
  · cases h
def mkIdx (x m : Str) (p ap pos : Pos) {a : Expr} (A : CB P c a) : Option (CE P c (.Call (.Attribute (.Name x p) m ap) [a] [] pos)) :=
  match hl : cstOf P x with
  | none => none
  | some l => if h : m = "index" ∧ glB c.sc x = true ∧ okName x = true ∧ isStar a = false ∧ (ap.endLine == pos.line) = true then some ⟨fIdxC l A.f, fun X E o => ⟨fun pins s σ H Q I q => by
      obtain ⟨h1, h2, h3, h4, h5⟩ := h
      subst h1
      obtain ⟨v, u, k1, k2, k3, k4⟩ := o.cst (x, .tup l) (PySem.mem_of_lookup (cstOf_ok hl))
      exact (pe_bm PySem.F.plainAttrs_tuple PySem.F.slot_tuple_index PySem.F.type_tuple_index (mt_idxT (by have := o.room.un; omega)) (pe_glob (o.gl h2) k1 k2 (okName_1 h3).1) (pa_cons (A.ok X E o) pa_nil (star_no h4 _ _)) (call_no rfl _ _ _)
        (few_ok (by simp [starOk, h4]) (by simp)) h5 (star_no h4 _ _) (backTo_any (star_all rfl))).run pins s σ H Q I (ev_idxC (G := gc P X) k3 k4 q)⟩⟩ else none
/-! ### subscripts -/
def mkIx {a b : Expr} (pos : Pos) (A : CB P c a) (B : CB P c b) : Option (CE P c (.Subscript a b pos)) :=
  if h : isSlE b = false then some ⟨f2 gIxA A.f B.f, fun X E o => PE.mono (pe_ix ix_A (A.ok X E o) (B.ok X E o) (sl_no h)) fun _ _ _ q => ev_op (G := gc P X) vr_ix q⟩ else none
def mkPart (rec : (e : Expr) → Option (CE P c e)) : (e : Option Expr) → Option (CO P c e)
  | none => some ⟨fNoPart, fun X E o => ⟨fun pins s σ H Q I q => po_none.run pins s σ H Q I (ev_noPart q)⟩⟩
  | some e => match rec e with
    | none => none
    | some A => some ⟨fPart A.f, fun X E o => ⟨fun pins s σ H Q I q => (po_some (A.ok X E o)).run pins s σ H Q I (ev_part q)⟩⟩
def mkSl {a : Expr} {lo hi : Option Expr} (p2 pos : Pos) (A : CB P c a) (L : CO P c lo) (U : CO P c hi) : CE P c (.Subscript a (.Slice lo hi none p2) pos) :=
  ⟨fSl A.f L.f U.f, fun X E o => PE.mono (pe_slice sl_all (A.ok X E o) (L.ok X E o) (U.ok X E o)) fun _ _ _ q => ev_slice (G := gc P X) q⟩
def mkRev {a : Expr} (i : Int) (k : Nat) (p1 p2 p3 pos : Pos) (A : CB P c a) : Option (CE P c (.Subscript a (.Slice none none (some (.UnaryOp .USub (.Constant (.int i) k p1) p2)) p3) pos)) :=
  if h : i = 1 then some ⟨f1 revD A.f, fun X E o => by subst h; exact PE.mono (pe_revA (A.ok X E o)) fun _ _ _ q => ev_rev (G := gc P X) q⟩ else none
/-! ### displays -/
def mkTup {es : List Expr} (k : Nat) (pos : Pos) (A : CA P c es) : CE P c (.Tuple es k pos) := ⟨fSz .tup A.f, fun X E o => PE.mono (pe_tup (A.ok X E o)) fun _ _ _ q => ev_tup q⟩
def mkLst {es : List Expr} (pos : Pos) (A : CA P c es) : CE P c (.List es pos) := ⟨fSz .lst A.f, fun X E o => PE.mono (pe_lst (A.ok X E o)) fun _ _ _ q => ev_lst q⟩
/-! ### tests -/
def truD : D → Option Bool
  | .non => some false
  | .bl b => some b
  | .int i => some (i != 0)
  | .str y => if y.length ≤ SZ then some ((y.length : Int) != 0) else none
  | .tup l => some (!l.isEmpty)
  | .lst l => some (!l.isEmpty)
  | .scr l => some (!l.isEmpty)
  | _ => none
def fTru (f : Fe) : Ft := fun ρ => M.bnd (f ρ) fun d => M.opt (truD d)
theorem RpA.empty {G : GC} {oa : List (List Addr)} {H : Hp} {l : List D} {vs : List V} (h : RpA G oa H l vs) : l.isEmpty = vs.isEmpty := by
  have := h.length
  cases l <;> cases vs <;> first | rfl | (simp at this)
theorem tru_bw {G : GC} {oa : List (List Addr)} {Hf H : Hp} {d : D} {v : V} {k : Bool} (ex : Ex Hf H) (e : truD d = some k) (r : Bw G oa Hf H d v) : TruV G.K v H k := by
  by_cases hi : ∃ l, itemsD d = some l
  · obtain ⟨l, hi⟩ := hi
    obtain ⟨a, xs, rfl, hs, hr⟩ := bw_items ex hi r
    have hk : k = !xs.isEmpty := by
      rw [← RpA.empty hr]
      cases d <;> cases hi <;> cases e <;> simp
    rcases hs with hs | hs
    · exact .inl ⟨xs, hs, hk⟩
    · exact .inr (.inl ⟨xs, hs, hk⟩)
  · cases d with
    | non =>
      have := bw_non r
      subst this
      cases e
      rfl
    | bl b =>
      have := bw_bl r
      subst this
      cases e
      rfl
    | int i =>
      have := bw_int r
      subst this
      cases e
      rfl
    | str y =>
      have := bw_str r
      subst this
      have e : (if y.length ≤ SZ then some ((y.length : Int) != 0) else none) = some k := e
      split at e
      · cases e; exact ⟨sz_le (by assumption), rfl⟩
      · cases e
    | tup l => exact (hi ⟨l, rfl⟩).elim
    | lst l => exact (hi ⟨l, rfl⟩).elim
    | scr l => exact (hi ⟨_, rfl⟩).elim
    | _ => cases e
theorem ev_tru {G : GC} {E : XK} {f : Fe} {σ : L2.St} {H : Hp} {Q : Bool → Hp → Prop} (h : Ev G E RT (fTru f) σ H Q) : Ev G E (RB G) f σ H (fun x H' => ∃ k, TruV G.K x H' k ∧ Q k H') := by
  obtain ⟨Hf, oa, ρ, τ, rel, a⟩ := h
  refine ⟨Hf, oa, ρ, τ, rel, a.bnd fun d τ1 v H1 Hf1 oa1 _ p1 g1 r1 a1 => ?_⟩
  obtain ⟨k, hk, a2⟩ := a1.opt
  exact ⟨k, tru_bw g1.ex hk r1, a2.ret g1 rfl⟩
def mkTru {e : Expr} (A : CB P c e) : Option (CT P c e) :=
  if h : isTestE e = false then some ⟨fTru A.f, fun X E o => PT.mono (pt_truth (A.ok X E o) (test_no h _)) fun _ _ _ q => ev_tru (G := gc P X) q⟩ else none
def mkNotT {a : Expr} (pos : Pos) (A : CT P c a) : CT P c (.UnaryOp .Not a pos) := ⟨fNot A.f, fun X E o => PT.mono (pt_not (A.ok X E o)) fun _ _ _ q => ev_not q⟩
def ofW {e : Expr} (A : CW P c e) : CT P c e := ⟨A.f, fun X E o => (A.ok X E o).pt⟩
def mkCmpT {a b : Expr} (op : CmpOp) (pos : Pos) (A : CB P c a) (B : CB P c b) : Option (CT P c (.Compare a [op] [b] pos)) :=
  match opC op with
  | none => none
  | some o => if h : isSetE b = false then some ⟨fB (f2 o.g A.f B.f), fun X E k => PT.mono (pt_cmpR (o.ho X (by have := k.room.un; omega)) (A.ok X E k) (B.ok X E k) (mark_no h op)) fun _ _ _ q => ev_op (G := gc P X) (o.hv _) (ev_B q)⟩ else none
def mkChainT {a b d : Expr} (op op' : CmpOp) (pos : Pos) (A : CB P c a) (B : CB P c b) (C : CB P c d) : Option (CT P c (.Compare a [op, op'] [b, d] pos)) :=
  match opC op, opC op' with
  | some o, some o' => if h : isSetE d = false then some ⟨fB (fChain o.g o'.g A.f B.f C.f), fun X E k => PT.mono (pt_chain (o.ho X (by have := k.room.un; omega)) (o'.ho X (by have := k.room.un; omega)) (A.ok X E k) (B.ok X E k) (C.ok X E k) (mark_no h op')) fun _ _ _ q => ev_chain (G := gc P X) (o.hv _) (o'.hv _) (ev_B q)⟩ else none
  | _, _ => none
/-! ### iterables -/
theorem PI.mono {X : Cx} {tg e : Expr} {t t' : TI} (h : PI X tg e t) (k : ∀ σ H Q, t' σ H Q → t σ H Q) : PI X tg e t' := ⟨fun pins s σ H Q I q => h.run pins s σ H Q I (k σ H Q q)⟩
/-- a list or a tuple: which, the value says -/
def fItA (f : Fe) : En → M (List D) := fun ρ => M.bnd (f ρ) fun d => M.opt (items0 d)
theorem pi_seq {X : Cx} {tg l : Expr} {tl : TE} (hl : PE X l tl) : PI X tg l (fun σ H R => tl σ H fun x H1 => ∃ a, x = .ref a ∧ (((∃ xs, SqL X.K H1 a xs) ∧ R (Itl X.K a) H1) ∨ ((∃ xs, SqT X.K H1 a xs) ∧ R (Itt X.K a) H1))) := by
  refine ⟨fun pins s σ H R I h => ?_⟩
  refine thn (hl.run pins s σ H _ I h) fun v s1 ⟨x, H1, I1, r1, q1⟩ => ?_
  obtain ⟨a, e, q⟩ := q1
  subst e
  cases r1
  rcases q with ⟨⟨xs, hq⟩, q⟩ | ⟨⟨xs, hq⟩, q⟩
  · obtain ⟨its, rv, p, hz⟩ := I1.list hq
    refine wpAny_pyIter_list p.isList ?_
    refine ⟨s1.heap.objs.size, [s1.heap.objs.size], _, _, H1, rfl, I1.kept (t' := s1.toks) fun b o e => Heap.get?_push_of_some _ e, turn_list a _, ⟨_, Heap.get?_push_size _ rfl, rfl, rfl⟩, fun b hb => ?_, q⟩
    have e : b = s1.heap.objs.size := by simpa using hb
    subst e
    exact I1.fpOk (Nat.le_refl _) (I1.hok.fresh (Nat.le_refl _))
  · obtain ⟨its, rv, p, hz⟩ := I1.tuple hq
    refine wpAny_pyIter_tuple (show s1.heap.IsTuple a its.toArray from p) ?_
    refine ⟨s1.heap.objs.size, [s1.heap.objs.size], _, _, H1, rfl, I1.kept (t' := s1.toks) fun b o e => Heap.get?_push_of_some _ e, turn_tuple a _, ⟨_, Heap.get?_push_size _ rfl, rfl, rfl⟩, fun b hb => ?_, q⟩
    have e : b = s1.heap.objs.size := by simpa using hb
    subst e
    exact I1.fpOk (Nat.le_refl _) (I1.hok.fresh (Nat.le_refl _))
theorem ev_itA {G : GC} {E : XK} {f : Fe} {σ : L2.St} {H : Hp} {R : It → Hp → Prop} (h : Ev G E (RI G) (fItA f) σ H R) : Ev G E (RE G) f σ H fun x H1 => ∃ a, x = .ref a ∧ (((∃ xs, SqL G.K H1 a xs) ∧ R (Itl G.K a) H1) ∨ ((∃ xs, SqT G.K H1 a xs) ∧ R (Itt G.K a) H1)) := by
  obtain ⟨Hf, oa, ρ, τ, rel, a⟩ := h
  refine ⟨Hf, oa, ρ, τ, rel, a.bnd fun d τ1 v H1 Hf1 oa1 _ p1 g1 r1 a1 => ?_⟩
  obtain ⟨l, hl, a2⟩ := a1.opt
  cases d with
  | tup ds =>
    cases hl
    obtain ⟨b, xs, rfl, hs, hr⟩ := rp_tup.mp r1
    exact ⟨b, rfl, .inr ⟨⟨xs, g1.ex.t hs⟩, a2.ret g1 (yl_tup hs hr)⟩⟩
  | lst ds =>
    cases hl
    obtain ⟨b, xs, rfl, hs, hr⟩ := rp_lst.mp r1
    exact ⟨b, rfl, .inl ⟨⟨xs, .inl (g1.ex.rd hs)⟩, a2.ret g1 (yl_list hs hr fun _ _ _ _ _ _ => trivial)⟩⟩
  | _ => cases hl
def mkItA {tg e : Expr} (A : CE P c e) : CI P c tg e := ⟨fItA A.f, fun X E o => PI.mono (pi_seq (A.ok X E o)) fun _ _ _ q => ev_itA (G := gc P X) q⟩
def mkRng1 {tg a : Expr} (x : Str) (p pos : Pos) (A : CA P c [a]) : Option (CI P c tg (.Call (.Name x p) [a] [] pos)) :=
  if h : x = "range" ∧ glB c.sc x = true ∧ isStar a = false then some ⟨fRng rng1 A.f, fun X E o => by
    obtain ⟨h1, h2, h3⟩ := h
    subst h1
    exact PI.mono (pi_range1 (o.gl h2) (o.mg (by decide)) (A.ok X E o) (star_no h3 _ _)) fun _ _ _ q => ev_rng1 (G := gc P X) q⟩ else none
def mkRng2 {tg a b : Expr} (x : Str) (p pos : Pos) (A : CA P c [a, b]) : Option (CI P c tg (.Call (.Name x p) [a, b] [] pos)) :=
  if h : x = "range" ∧ glB c.sc x = true ∧ isStar a = false ∧ isStar b = false then some ⟨fRng rng2 A.f, fun X E o => by
    obtain ⟨h1, h2, h3, h4⟩ := h
    subst h1
    exact PI.mono (pi_range2 (o.gl h2) (o.mg (by decide)) (A.ok X E o) ((star_no h3 _ _).trans (by rw [star_no h4]; rfl)) (star_no h4 _ _)) fun _ _ _ q => ev_rng2 (G := gc P X) q⟩ else none
def mkZip2 {a b : Expr} {elts : List Expr} {kk : Nat} {tpos : Pos} (x : Str) (p pos : Pos) (A : CA P c [a, b]) : Option (CI P c (.Tuple elts kk tpos) (.Call (.Name x p) [a, b] [] pos)) :=
  if h : x = "zip" ∧ glB c.sc x = true ∧ isStar a = false ∧ isStar b = false then some ⟨fRng zip2 A.f, fun X E o => by
    obtain ⟨h1, h2, h3, h4⟩ := h
    subst h1
    exact PI.mono (RZ.pi_zipA (o.gl h2) (o.mg (by decide)) (A.ok X E o) (star_no h3 _ _) (backTo_any (star_all (by simp [h4])))) fun _ _ _ q => ev_zip2 (G := gc P X) q⟩ else none
def mkEnum {a : Expr} {elts : List Expr} {kk : Nat} {tpos : Pos} (x : Str) (p pos : Pos) (A : CA P c [a]) : Option (CI P c (.Tuple elts kk tpos) (.Call (.Name x p) [a] [] pos)) :=
  if h : x = "enumerate" ∧ glB c.sc x = true ∧ isStar a = false then some ⟨fRng enumL A.f, fun X E o => by
    obtain ⟨h1, h2, h3⟩ := h
    subst h1
    exact PI.mono (pi_enum (o.gl h2) (o.mg (by decide)) (A.ok X E o) (star_no h3 _ _)) fun _ _ _ q => ev_enumL (G := gc P X) q⟩ else none
/-! ### targets -/
theorem asg_no {e : Expr} (h : isStar e = false) (es : List Expr) (env : Env) : assignEach (e :: es) env = (false, assign e env) :: assignEach es env := by
  cases e <;> first | rfl | cases h
mutual
def mkTg : (e : Expr) → Option (CG P c e)
  | .Name x pos => match e : slotOf x P.N with
    | none => none
    | some i => if h : locB c.sc c.fn x = true then some ⟨.name i, fun X E o => by
        have hl := locB_loc h
        exact pg_name (by rw [o.nms]; exact o.nd) (by rw [o.nms]; exact slotOf_some e) (by rw [o.scp]; exact hl.1) (hl.2.elim (fun q => .inl (o.fn x q)) fun q => .inr (by rw [o.scp]; exact q))⟩ else none
  | .Tuple es k pos => match mkTgs es with
    | none => none
    | some T => some ⟨.tup T.ts, fun X E o => pg_tup o.calm (T.ok X E o) (T.len _) (T.st _)⟩
  | _ => none
def mkTgs : (es : List Expr) → Option (CGs P c es)
  | [] => some ⟨[], fun X E o => pgs_nil, fun _ => rfl, fun _ => rfl⟩
  | e :: es => match mkTg e, mkTgs es with
    | some A, some B => if h : isStar e = false then some ⟨A.t :: B.ts, fun X E o => pgs_cons (A.ok X E o) (B.ok X E o) (by rw [asg_no h]; rfl), fun env => by rw [asg_no h]; simp [B.len env], fun env => by
        have q := B.st env
        rw [asg_no h, List.findIdx?_cons]
        simp [q]⟩ else none
    | _, _ => none
end
/-! ### a comprehension's block -/
def blkCtx (c : Ctx) (scope : Scope) : Ctx := ⟨relS scope c.sc, fun x => scope.names.lookup x == some .cell, false, c.xk⟩
theorem blk_ok {X : Cx} {E : XK} (o : XOk P c X E) (s : Shared) (H : Hp) (scope : Scope) (C : Addr) (cl : List (Str × Addr)) (fp : List Addr) : XOk P (blkCtx c scope) (X.blk s H scope (compEnvC scope cl C X.env) fp) L2.E0 := by
  refine ⟨?_, o.nms, o.nd, o.calm, o.room, takes0, PassesOwn.never, fun x h => h, o.blt, o.cst, fun e he => ?_, o.exs, o.kle, (fun z => by cases z), o.xk⟩
  · show relS scope X.env.scope = relS scope c.sc
    rw [o.scp]
  · exact ⟨(o.fns e he).nm, (o.fns e he).ex⟩
def ownOf (N : List Str) (scope : Scope) : List (Str × Nat) := scope.names.filterMap fun y => match y.2 with
  | .local => (slotOf y.1 N).map fun i => (y.1, i)
  | .cell => (slotOf y.1 N).map fun i => (y.1, i)
  | _ => none
def mkIfs (rec : (e : Expr) → Option (CT P c e)) : (es : List Expr) → Option { f : Ft // ∀ X E, XOk P c X E → PTs X es (Ev (gc P X) E RT f) }
  | [] => some ⟨fun _ => M.ret true, fun X E o => ⟨fun pins s σ H Q I q => pts_nil.run pins s σ H Q I (by
      obtain ⟨Hf, oa, ρ, τ, rel, a⟩ := q
      exact a.ret rel.good rfl)⟩⟩
  | [e] => match rec e with
    | none => none
    | some A => some ⟨A.f, fun X E o => pts_one (A.ok X E o)⟩
  | _ => none
/-- what a comprehension is made of -/
structure CLc (P : Par) (c : Ctx) (elt tg iter : Expr) (ifs : List Expr) (scope : Scope) where
  fi : En → M (List D)
  t : Tg
  ft : Ft
  fe : Fe
  okI : ∀ X E, XOk P c X E → PI X tg iter (Ev (gc P X) E (RI (gc P X)) fi)
  okG : ∀ X E, XOk P (blkCtx c scope) X E → PG X tg (gT X.K t)
  okT : ∀ X E, XOk P (blkCtx c scope) X E → PTs X ifs (Ev (gc P X) E RT ft)
  okE : ∀ X E, XOk P (blkCtx c scope) X E → PE X elt (Ev (gc P X) E (RE (gc P X)) fe)
  blk : BlkOk P.N c.sc scope (ownOf P.N scope)
  slots : ∀ k ∈ slotsT t, k ∈ (ownOf P.N scope).map (·.2)
  it : isSetE iter = false
def CLc.f {elt tg iter : Expr} {ifs : List Expr} {scope : Scope} (L : CLc P c elt tg iter ifs scope) : Fe := fLc L.fi L.t L.ft L.fe ((ownOf P.N scope).map (·.2))
theorem CLc.pe {elt tg iter : Expr} {ifs : List Expr} {scope : Scope} {pos : Pos} (L : CLc P c elt tg iter ifs scope) {X : Cx} {E : XK} (o : XOk P c X E) : PE X (.ListComp elt [⟨tg, iter, ifs, 0⟩] scope pos) (tLc (Ev (gc P X) E (RI (gc P X)) L.fi) (gT X.K L.t) (Ev (gc P X) L2.E0 RT L.ft) (Ev (gc P X) L2.E0 (RE (gc P X)) L.fe) ((ownOf P.N scope).map (·.2))) :=
  pe_lc o.calm (by rw [o.nms]; exact o.nd) (L.okI X E o) (by rw [o.nms, o.scp]; exact L.blk) (fun s H C cl fp => L.okG _ _ (blk_ok o s H scope C cl fp)) (fun s H C cl fp => L.okT _ _ (blk_ok o s H scope C cl fp)) (fun s H C cl fp => L.okE _ _ (blk_ok o s H scope C cl fp)) (set_no L.it _)
def mkLc {elt tg iter : Expr} {ifs : List Expr} {scope : Scope} (pos : Pos) (L : CLc P c elt tg iter ifs scope) : CE P c (.ListComp elt [⟨tg, iter, ifs, 0⟩] scope pos) := ⟨L.f, fun X E o => PE.mono (L.pe o) fun _ _ _ q => ev_lc (G := gc P X) L.slots q⟩
def slotsIn (t : Tg) (vs : List Nat) : Bool := (slotsT t).all fun k => vs.contains k
theorem slotsIn_ok {t : Tg} {vs : List Nat} (h : slotsIn t vs = true) : ∀ k ∈ slotsT t, k ∈ vs := by
  intro k hk
  unfold slotsIn at h
  simpa using List.all_eq_true.mp h k hk
def mkCLc (elt tg iter : Expr) (ifs : List Expr) (scope : Scope) (I : CI P c tg iter) (G : CG P (blkCtx c scope) tg) (T : { f : Ft // ∀ X E, XOk P (blkCtx c scope) X E → PTs X ifs (Ev (gc P X) E RT f) }) (A : CE P (blkCtx c scope) elt) : Option (CLc P c elt tg iter ifs scope) :=
  if h : blkC P.N c.sc scope (ownOf P.N scope) = true ∧ slotsIn G.t ((ownOf P.N scope).map (·.2)) = true ∧ isSetE iter = false then
    some ⟨I.f, G.t, T.1, A.f, I.ok, G.ok, T.2, A.ok, blkOk_by h.1, slotsIn_ok h.2.1, h.2.2⟩ else none
end
end KF
set_option maxHeartbeats 4000000
/-! KFC: the compiler, statements. -/
namespace KF
open PySem PySem.Spec PyProof.Rows L2
section
variable {P : Par}
/-! ### statements -/
structure CS (P : Par) (c : Ctx) (st : Stmt) where
  f : Fs
  ok : ∀ n X E B, XOk P c X E → PS X st (tS (gc P X) B E (f n))
structure CSs (P : Par) (c : Ctx) (st : List Stmt) where
  f : Fs
  ok : ∀ n X E B, XOk P c X E → PSs X st (tS (gc P X) B E (f n))
variable {c : Ctx}
/-- a local slot that may be stored -/
def slotL (P : Par) (c : Ctx) (x : Str) : Option Nat := if locB c.sc c.fn x = true then slotOf x P.N else none
theorem slotL_ok {x : Str} {i : Nat} (h : slotL P c x = some i) : locB c.sc c.fn x = true ∧ P.N[i]? = some x := by
  unfold slotL at h
  split at h
  · exact ⟨by assumption, slotOf_some h⟩
  · cases h
theorem ps_setK {X : Cx} {E : XK} (o : XOk P c X E) {x : Str} {i : Nat} {px pos : Pos} {e : Expr} {te : TE} (h : slotL P c x = some i) (he : PE X e te) (hc : isCompE e = false) : PS X (.Assign [.Name x px] e pos) (tAsg te (gName i)) := by
  obtain ⟨h1, h2⟩ := slotL_ok h
  have hl := locB_loc h1
  exact ps_set (by rw [o.nms]; exact o.nd) (by rw [o.nms]; exact h2) (by rw [o.scp]; exact hl.1) he (comp_no hc _ _ _) (hl.2.elim (fun q => .inl (o.fn x q)) fun q => .inr (by rw [o.scp]; exact q))
def mkSet {e : Expr} (x : Str) (px pos : Pos) (A : CE P c e) : Option (CS P c (.Assign [.Name x px] e pos)) :=
  match h : slotL P c x with
  | none => none
  | some i => if hc : isCompE e = false then some ⟨fun _ => fAsg (.name i) A.f, fun n X E B o => PS.mono (ps_setK o h (A.ok X E o) hc) fun _ _ _ q => ts_asg (G := gc P X) q⟩ else none
def mkSetO {es : List Expr} (x : Str) (px pos lpos : Pos) (A : CA P c es) : Option (CS P c (.Assign [.Name x px] (.List es lpos) pos)) :=
  match h : slotL P c x with
  | none => none
  | some i => some ⟨fun _ => fAsgO i (fSz .lst A.f), fun n X E B o => PS.mono (ps_setK o h (pe_lst (A.ok X E o)) rfl) fun D σ H q => by
      have := ts_asgO (G := gc P X) q
      exact ev_lstO this⟩
def mkMove (x : Str) (px pos : Pos) (y : Str) (py : Pos) : Option (CS P c (.Assign [.Name x px] (.Name y py) pos)) :=
  match h : slotL P c x, hy : slotOf y P.N with
  | some i, some j => if hv : visB c.sc y = true ∧ okName y = true then some ⟨fun _ => fMove i j, fun n X E B o => PS.mono (ps_setK o h (pe_var (i := j) (by rw [o.nms]; exact slotOf_some hy) (by rw [o.scp]; exact visB_vis hv.1) (okName_1 hv.2).1 (okName_1 hv.2).2) rfl) fun _ _ _ q => ts_move (G := gc P X) q⟩ else none
  | _, _ => none
/-- x = [..] on the line of the statement -/
def swLc (c : Ctx) (y : Str) (py pos : Pos) (scope : Scope) : Bool := (match c.sc.kind with | .function => true | _ => false) && (match c.sc.names.lookup y with | some .local => true | _ => false) && (py.line == pos.line) && !(scope.names.any fun (n, k) => n == y && (k == .local || k == .cell))
theorem swLc_ok {y : Str} {py pos : Pos} {scope : Scope} (h : swLc c y py pos scope = true) : c.sc.kind = .function ∧ c.sc.names.lookup y = some .local ∧ (py.line == pos.line) = true ∧ (scope.names.any fun (n, k) => n == y && (k == .local || k == .cell)) = false := by
  unfold swLc at h
  simp only [Bool.and_eq_true, Bool.not_eq_true'] at h
  obtain ⟨⟨⟨h1, h2⟩, h3⟩, h4⟩ := h
  refine ⟨?_, ?_, h3, h4⟩
  · split at h1
    · assumption
    · cases h1
  · split at h2
    · assumption
    · cases h2
theorem CLc.ps {elt tg iter : Expr} {ifs : List Expr} {scope : Scope} {pos spos py : Pos} {y : Str} {i : Nat} (L : CLc P c elt tg iter ifs scope) (hi : P.N[i]? = some y) (hs : swLc c y py pos scope = true) {X : Cx} {E : XK} (o : XOk P c X E) :
    PS X (.Assign [.Name y py] (.ListComp elt [⟨tg, iter, ifs, 0⟩] scope pos) spos) (tAsg (tLc (Ev (gc P X) E (RI (gc P X)) L.fi) (gT X.K L.t) (Ev (gc P X) L2.E0 RT L.ft) (Ev (gc P X) L2.E0 (RE (gc P X)) L.fe) ((ownOf P.N scope).map (·.2))) (gName i)) := by
  obtain ⟨h1, h2, h3, h4⟩ := swLc_ok hs
  exact ps_setLc o.calm (by rw [o.nms]; exact o.nd) (by rw [o.nms]; exact hi) (by rw [o.scp]; exact h2) (sw_true (by rw [o.scp]; exact h1) (by rw [o.scp]; exact h2) h3 h4) (L.okI X E o) (by rw [o.nms, o.scp]; exact L.blk)
    (fun s H C cl fp => L.okG _ _ (blk_ok o s H scope C cl fp)) (fun s H C cl fp => L.okT _ _ (blk_ok o s H scope C cl fp)) (fun s H C cl fp => L.okE _ _ (blk_ok o s H scope C cl fp)) (set_no L.it _)
def mkSetLc {elt tg iter : Expr} {ifs : List Expr} {scope : Scope} (y : Str) (py pos spos : Pos) (L : CLc P c elt tg iter ifs scope) : Option (CS P c (.Assign [.Name y py] (.ListComp elt [⟨tg, iter, ifs, 0⟩] scope pos) spos)) :=
  match h : slotOf y P.N with
  | none => none
  | some i => if hs : swLc c y py pos scope = true then
      (if i ∈ P.own then some ⟨fun _ => fAsgO i L.f, fun n X E B o => PS.mono (L.ps (slotOf_some h) hs o) fun D σ H q => ev_lcO (G := gc P X) L.slots (ts_asgO (G := gc P X) q)⟩
      else some ⟨fun _ => fAsg (.name i) L.f, fun n X E B o => PS.mono (L.ps (slotOf_some h) hs o) fun D σ H q => ev_lc (G := gc P X) L.slots (ts_asg (G := gc P X) q)⟩) else none
/-- target = value -/
theorem comp_noS {e tg : Expr} (h : isCompE e = false) (l : Nat) (env : Env) : swapsWithSole [tg] e l env = pure false := comp_no h _ _ _
def mkAsg {tg e : Expr} (pos : Pos) (G : CG P c tg) (A : CE P c e) (hw : ∀ env : Env, env.scope = c.sc → swappedStores [tg] e env = pure none) : Option (CS P c (.Assign [tg] e pos)) :=
  if h : isCompE e = false ∧ isStar tg = false then some ⟨fun _ => fAsg G.t A.f, fun n X E B o => PS.mono (ps_asg (A.ok X E o) (G.ok X E o) (comp_noS h.1 _ _) (hw _ o.scp) (by rw [asg_no h.2]; rfl)) fun _ _ _ q => ts_asg (G := gc P X) q⟩ else none
/-! swapped stores -/
def swBad (sc : Scope) (ts vs : List Expr) : Bool := !(ts.length == 2 || ts.length == 3) || vs.length != ts.length || (if sc.kind.isAnnotationScope then ScopeKind.function else sc.kind) != .function
def swNames (sc : Scope) (ts : List Expr) : List Str := ts.filterMap fun
    | .Name id pos => if sc.names.lookup id == some .local && pos.line == (ts.head?.map (·.pos.line)).getD 0 then some id else none
    | _ => none
def swp (sc : Scope) (ts vs : List Expr) : Option (Option (List Str)) :=
  if swBad sc ts vs then some none else if (vs.any fun | .Starred .. => true | _ => false) then some none else
  if (swNames sc ts).length != ts.length || (swNames sc ts).eraseDups.length != (swNames sc ts).length then some none else
  if vs.all (foldedForSure 8) then some none else if vs.all (constantsAlone 8) then none else some (some (swNames sc ts))
theorem swp_ok {env : Env} {ts vs : List Expr} {k k2 : Nat} {p p2 : Pos} {r : Option (List Str)} (h : swp env.scope ts vs = some r) : swappedStores [.Tuple ts k p] (.Tuple vs k2 p2) env = pure r := by
  unfold swp at h
  unfold swappedStores
  split at h
  · rename_i e; cases h; exact if_pos e
  · rename_i e
    refine (if_neg e).trans ?_
    split at h
    · rename_i e; cases h; exact if_pos e
    · rename_i e
      refine (if_neg e).trans ?_
      split at h
      · rename_i e; cases h; exact if_pos e
      · rename_i e
        refine (if_neg e).trans ?_
        split at h
        · rename_i e; cases h; exact if_pos e
        · rename_i e
          refine (if_neg e).trans ?_
          split at h
          · cases h
          · rename_i e
            cases h
            exact if_neg e
/-! ### a, b = x, y -/
def setsE : En → List Nat → List D → Option En
  | ρ, [], [] => some ρ
  | ρ, i :: is, d :: ds => setsE (ρ.set i (.fz d)) is ds
  | _, _, _ => none
def fPar (is : List Nat) (fa : Fa) : En → M Out := fun ρ => M.bnd (fa ρ) fun ds => M.bnd (M.opt (setsE ρ is ds)) fun ρ' => M.ret (.next ρ')
section
variable {G : GC} {B : Bs} {E : XK} {σ : L2.St} {H : Hp}
theorem ts_par {i j : Nat} {fa : Fa} {D : Ends} (h : tS G B E (fPar [i, j] fa) D σ H) : tPar i j (Ev G E (RA G) fa) D σ H := by
  obtain ⟨Hf, oa, ρ, τ, r, a⟩ := h
  refine ⟨Hf, oa, ρ, τ, r.rel, a.bnd r fun ds τ1 vs H1 Hf1 oa1 _ p1 g1 q1 r1 a1 => ?_⟩
  obtain ⟨ρ', e, a1⟩ := ats_opt a1
  match ds, e, q1 with
  | [d1, d2], e, q1 =>
    obtain ⟨v, w, rfl, h1, h2⟩ := rpa_two q1
    cases e
    exact ⟨v, w, rfl, a1 _ H1 Hf1 oa1 .rfl' .rfl' (r1.bind ((r1.rel.set h1).set h2) (Chg.name.tr Chg.name))⟩
theorem rpa_three {oa : List (List Addr)} {H : Hp} {d e f : KF.D} {vs : List V} (h : RpA G oa H [d, e, f] vs) : ∃ v w x, vs = [v, w, x] ∧ Rp G oa H d v ∧ Rp G oa H e w ∧ Rp G oa H f x := by
  obtain ⟨v, r, rfl, h1, h2⟩ := rpa_cons.mp h
  obtain ⟨w, x, rfl, h3, h4⟩ := rpa_two h2
  exact ⟨v, w, x, rfl, h1, h3, h4⟩
theorem ts_par3 {i j k : Nat} {fa : Fa} {D : Ends} (h : tS G B E (fPar [i, j, k] fa) D σ H) : tPar3 i j k (Ev G E (RA G) fa) D σ H := by
  obtain ⟨Hf, oa, ρ, τ, r, a⟩ := h
  refine ⟨Hf, oa, ρ, τ, r.rel, a.bnd r fun ds τ1 vs H1 Hf1 oa1 _ p1 g1 q1 r1 a1 => ?_⟩
  obtain ⟨ρ', e, a1⟩ := ats_opt a1
  match ds, e, q1 with
  | [d1, d2, d3], e, q1 =>
    obtain ⟨v, w, x, rfl, h1, h2, h3⟩ := rpa_three q1
    cases e
    exact ⟨v, w, x, rfl, a1 _ H1 Hf1 oa1 .rfl' .rfl' (r1.bind (((r1.rel.set h1).set h2).set h3) ((Chg.name.tr Chg.name).tr Chg.name))⟩
/-- a, b = x, [..], b held alone -/
def fParO (i j : Nat) (fa fb : Fe) : En → M Out := fun ρ => M.bnd (fa ρ) fun d => M.bnd (fb ρ) fun e => M.ret (.next ((ρ.set i (.fz d)).set j (.ow e)))
theorem ts_parO {i j : Nat} {fa : Fe} {fb : Fe} {D : Ends} (h : tS G B E (fParO i j fa fb) D σ H) : tPar i j (tCons (Ev G E (RE G) fa) (tCons (EvO G E fb) tNil)) D σ H := by
  obtain ⟨Hf, oa, ρ, τ, r, a⟩ := h
  refine ⟨Hf, oa, ρ, τ, r.rel, a.bnd r fun d τ1 v H1 Hf1 oa1 _ p1 g1 q1 r1 a1 => ?_⟩
  refine ⟨Hf1, oa1, ρ, τ1, r1.rel, a1.bnd r1 fun e τ2 w H2 Hf2 oa2 _ p2 g2 q2 r2 a2 => ?_⟩
  obtain ⟨o, n⟩ := q2
  obtain ⟨l, rfl⟩ := o.ref
  refine ⟨v, .ref l, rfl, a2 _ H2 Hf2 oa2 .rfl' .rfl' ?_⟩
  have q1' := q1.mono p2.exf p2.oax
  exact RelS.setO (r1.bind (r1.rel.set q1) Chg.name) (r2.bind (r2.rel.set q1') Chg.name) o (n l rfl)
theorem ts_asgTO {i j : Nat} {fa fb : Fe} {D : Ends} (h : tS G B E (fParO i j fa fb) D σ H) : tAsg (tTup (tCons (Ev G E (RE G) fa) (tCons (EvO G E fb) tNil))) (gT G.K (.tup [.name i, .name j])) D σ H := by
  obtain ⟨Hf, oa, ρ, τ, r, a⟩ := h
  refine ⟨Hf, oa, ρ, τ, r.rel, a.bnd r fun d τ1 v H1 Hf1 oa1 _ p1 g1 q1 r1 a1 => ?_⟩
  refine ⟨Hf1, oa1, ρ, τ1, r1.rel, a1.bnd r1 fun e τ2 w H2 Hf2 oa2 _ p2 g2 q2 r2 a2 => ?_⟩
  obtain ⟨o, n⟩ := q2
  obtain ⟨l, rfl⟩ := o.ref
  refine ⟨sz_le (show 2 ≤ SZ by decide), fun p hp => ?_⟩
  refine ⟨p, [v, .ref l], rfl, .inl (.inl upd_same), rfl, v, [.ref l], rfl, .ref l, [], rfl, rfl, ?_⟩
  have pu : Pure Hf2 H2 Hf2 (upd H2 p (.tup [v, .ref l])) := .newO g2.ex hp
  have r3 := r2.post (pu.post (T := G.T) (oa := oa2)) (g2.pure pu)
  have q1' := q1.mono p2.exf p2.oax
  refine a2 _ _ Hf2 oa2 .rfl' .rfl' ?_
  exact RelS.setO (r1.bind (r1.rel.set q1) Chg.name) (r3.bind (r3.rel.set q1') Chg.name) (o.post (pu.post (T := G.T) (oa := oa2))) (n l rfl)
def fRaise (x : XC) : En → M Out := fun _ => M.raise x
end
def locN (c : Ctx) (x : Str) : Bool := match c.sc.names.lookup x with
  | some .local => true
  | _ => false
theorem locN_ok {x : Str} (h : locN c x = true) : c.sc.names.lookup x = some .local := by
  unfold locN at h
  split at h
  · assumption
  · cases h
def mkPar2 {a b : Expr} (x y : Str) (px py : Pos) (kt : Nat) (pt : Pos) (k2 : Nat) (pt2 pos : Pos) (A : CA P c [a, b]) : Option (CS P c (.Assign [.Tuple [.Name x px, .Name y py] kt pt] (.Tuple [a, b] k2 pt2) pos)) :=
  match h1 : slotOf x P.N, h2 : slotOf y P.N with
  | some i, some j => if h : i ≠ j ∧ locN c x = true ∧ locN c y = true ∧ swp c.sc [.Name x px, .Name y py] [a, b] = some (some [x, y]) then
      some ⟨fun _ => fPar [i, j] A.f, fun n X E B o => PS.mono (ps_par o.calm (by rw [o.nms]; exact o.nd) (by rw [o.nms]; exact slotOf_some h1) (by rw [o.nms]; exact slotOf_some h2) h.1 (by rw [o.scp]; exact locN_ok h.2.1) (by rw [o.scp]; exact locN_ok h.2.2.1) (A.ok X E o) (swp_ok (by rw [o.scp]; exact h.2.2.2)) (comp_noS rfl _ _)) fun _ _ _ q => ts_par (G := gc P X) q⟩ else none
  | _, _ => none
def mkPar3 {a b d : Expr} (x y z : Str) (px py pz : Pos) (kt : Nat) (pt : Pos) (k2 : Nat) (pt2 pos : Pos) (A : CA P c [a, b, d]) : Option (CS P c (.Assign [.Tuple [.Name x px, .Name y py, .Name z pz] kt pt] (.Tuple [a, b, d] k2 pt2) pos)) :=
  match h1 : slotOf x P.N, h2 : slotOf y P.N, h3 : slotOf z P.N with
  | some i, some j, some k => if h : i ≠ j ∧ i ≠ k ∧ j ≠ k ∧ locN c x = true ∧ locN c y = true ∧ locN c z = true ∧ swp c.sc [.Name x px, .Name y py, .Name z pz] [a, b, d] = some (some [x, y, z]) then
      some ⟨fun _ => fPar [i, j, k] A.f, fun n X E B o => by
        obtain ⟨g1, g2, g3, g4, g5, g6, g7⟩ := h
        exact PS.mono (ps_par3 o.calm (by rw [o.nms]; exact o.nd) (by rw [o.nms]; exact slotOf_some h1) (by rw [o.nms]; exact slotOf_some h2) (by rw [o.nms]; exact slotOf_some h3) g1 g2 g3 (by rw [o.scp]; exact locN_ok g4) (by rw [o.scp]; exact locN_ok g5) (by rw [o.scp]; exact locN_ok g6) (A.ok X E o) (swp_ok (by rw [o.scp]; exact g7)) (comp_noS rfl _ _)) fun _ _ _ q => ts_par3 (G := gc P X) q⟩ else none
  | _, _, _ => none
def mkParO {a : Expr} {es : List Expr} (x y : Str) (px py : Pos) (kt : Nat) (pt : Pos) (k2 : Nat) (pt2 pos lpos : Pos) (A : CE P c a) (L : CA P c es) : Option (CS P c (.Assign [.Tuple [.Name x px, .Name y py] kt pt] (.Tuple [a, .List es lpos] k2 pt2) pos)) :=
  match h1 : slotOf x P.N, h2 : slotOf y P.N with
  | some i, some j => if h : i ≠ j ∧ locN c x = true ∧ locN c y = true ∧ isStar a = false ∧ swp c.sc [.Name x px, .Name y py] [a, .List es lpos] = some (some [x, y]) then
      some ⟨fun _ => fParO i j A.f (fSz .lst L.f), fun n X E B o => by
        obtain ⟨g1, g2, g3, g4, g5⟩ := h
        refine PS.mono (ps_par o.calm (by rw [o.nms]; exact o.nd) (by rw [o.nms]; exact slotOf_some h1) (by rw [o.nms]; exact slotOf_some h2) g1 (by rw [o.scp]; exact locN_ok g2) (by rw [o.scp]; exact locN_ok g3) (pa_cons (A.ok X E o) (pa_cons (pe_lst (L.ok X E o)) pa_nil (star_no rfl _ _)) (star_no g4 _ _)) (swp_ok (by rw [o.scp]; exact g5)) (comp_noS rfl _ _)) fun D σ H q => ?_
        have t := ts_parO (G := gc P X) q
        obtain ⟨Hf, oa, ρ, τ, rel, a⟩ := t
        exact ⟨Hf, oa, ρ, τ, rel, a.imp fun v H1 z => ev_lstO (G := gc P X) z⟩⟩ else none
  | _, _ => none
def mkAsgTO {a : Expr} {es : List Expr} (x y : Str) (px py : Pos) (kt : Nat) (pt : Pos) (k2 : Nat) (pt2 pos lpos : Pos) (A : CE P c a) (L : CA P c es) : Option (CS P c (.Assign [.Tuple [.Name x px, .Name y py] kt pt] (.Tuple [a, .List es lpos] k2 pt2) pos)) :=
  match h1 : slotL P c x, h2 : slotL P c y with
  | some i, some j => if h : isStar a = false ∧ swp c.sc [.Name x px, .Name y py] [a, .List es lpos] = some none then
      some ⟨fun _ => fParO i j A.f (fSz .lst L.f), fun n X E B o => by
        obtain ⟨g4, g5⟩ := h
        obtain ⟨u1, u2⟩ := slotL_ok h1
        obtain ⟨u3, u4⟩ := slotL_ok h2
        have hl1 := locB_loc u1
        have hl2 := locB_loc u3
        have nd : X.N.Nodup := by rw [o.nms]; exact o.nd
        refine PS.mono (ps_asg (pe_tup (pa_cons (A.ok X E o) (pa_cons (pe_lst (L.ok X E o)) pa_nil (star_no rfl _ _)) (star_no g4 _ _))) (pg_tup o.calm (pgs_cons (pg_name (i := i) nd (by rw [o.nms]; exact u2) (by rw [o.scp]; exact hl1.1) (hl1.2.elim (fun q => .inl (o.fn x q)) fun q => .inr (by rw [o.scp]; exact q)))
          (pgs_cons (pg_name (i := j) nd (by rw [o.nms]; exact u4) (by rw [o.scp]; exact hl2.1) (hl2.2.elim (fun q => .inl (o.fn y q)) fun q => .inr (by rw [o.scp]; exact q))) pgs_nil))) (comp_noS rfl _ _) (swp_ok (by rw [o.scp]; exact g5)) (by rw [asg_no rfl]; rfl)) fun D σ H q => ?_
        have t := ts_asgTO (G := gc P X) q
        obtain ⟨Hf, oa, ρ, τ, rel, a⟩ := t
        exact ⟨Hf, oa, ρ, τ, rel, a.imp fun v H1 z => ev_lstO (G := gc P X) z⟩⟩ else none
  | _, _ => none
/-! ### lists held alone -/
def mkApp {a : Expr} (x m : Str) (p ap cp pos : Pos) (A : CE P c a) : Option (CS P c (.Expr (.Call (.Attribute (.Name x p) m ap) [a] [] cp) pos)) :=
  match hx : slotOf x P.N with
  | none => none
  | some i => if h : m = "append" ∧ visB c.sc x = true ∧ okName x = true ∧ isStar a = false ∧ (ap.endLine == cp.line) = true then some ⟨fun _ => fApp i A.f, fun n X E B o => by
      obtain ⟨h1, h2, h3, h4, h5⟩ := h
      subst h1
      exact PS.mono (ps_expr (pe_bm PySem.F.plainAttrs_list PySem.F.slot_list_append PySem.F.type_list_append mt_append (pe_var (i := i) (by rw [o.nms]; exact slotOf_some hx) (by rw [o.scp]; exact visB_vis h2) (okName_1 h3).1 (okName_1 h3).2) (pa_cons (A.ok X E o) pa_nil (star_no h4 _ _)) (call_no rfl _ _ _)
        (few_ok (by simp [starOk, h4]) (by simp)) h5 (star_no h4 _ _) (backTo_any (star_all rfl))) (comp_no rfl _ _ _)) fun _ _ _ q => ts_app (G := gc P X) q⟩ else none
def mkPop0 {tg : Expr} (G : CG P c tg) (x m : Str) (i0 : Int) (k : Nat) (p ap p0 cp pos : Pos) : Option (CS P c (.Assign [tg] (.Call (.Attribute (.Name x p) m ap) [.Constant (.int i0) k p0] [] cp) pos)) :=
  match hx : slotOf x P.N with
  | none => none
  | some i => if h : m = "pop" ∧ i0 = 0 ∧ visB c.sc x = true ∧ okName x = true ∧ (ap.endLine == cp.line) = true ∧ isStar tg = false then some ⟨fun _ => fPop0 i G.t, fun n X E B o => by
      obtain ⟨h1, h6, h2, h3, h5, h4⟩ := h
      subst h1 h6
      exact PS.mono (ps_asg (pe_bm PySem.F.plainAttrs_list PySem.F.slot_list_pop PySem.F.type_list_pop mt_popAt (pe_var (i := i) (by rw [o.nms]; exact slotOf_some hx) (by rw [o.scp]; exact visB_vis h2) (okName_1 h3).1 (okName_1 h3).2) (pa_cons pe_int pa_nil (star_no rfl _ _)) (call_no rfl _ _ _)
        (few_ok rfl (by simp)) h5 (star_no rfl _ _) (backTo_any (star_all rfl))) (G.ok X E o) (comp_noS rfl _ _) (swap_no rfl _) (by rw [asg_no h4]; rfl)) fun _ _ _ q => ts_pop0 (G := gc P X) q⟩ else none
def mkRetO (x : Str) (p pos : Pos) : Option (CS P c (.Return (some (.Name x p)) pos)) :=
  match hx : slotOf x P.N with
  | none => none
  | some i => if h : visB c.sc x = true ∧ okName x = true ∧ i ∈ P.own then some ⟨fun _ => fRetO i, fun n X E B o => PS.mono (ps_ret (pe_var (i := i) (by rw [o.nms]; exact slotOf_some hx) (by rw [o.scp]; exact visB_vis h.1) (okName_1 h.2.1).1 (okName_1 h.2.1).2)) fun _ _ _ q => ts_retO (G := gc P X) q⟩ else none
/-! ### the others -/
def xcOf (exs : List XC) (x : Str) : Option XC := exs.find? fun k => nameX k == x
theorem xcOf_ok {exs : List XC} {x : Str} {k : XC} (h : xcOf exs x = some k) : k ∈ exs ∧ nameX k = x := ⟨List.mem_of_find?_eq_some h, by have := List.find?_some h; simpa using this⟩
def mkRaise (x m : Str) (j : Nat) (p p2 pos rpos : Pos) : Option (CS P c (.Raise (some (.Call (.Name x p) [.Constant (.str m) j p2] [] pos)) none rpos)) :=
  match hx : xcOf P.exs x with
  | none => none
  | some k => if h : glB c.sc x = true ∧ okName x = true then some ⟨fun _ => fRaise k, fun n X E B o => ⟨fun pins s σ H D I q => by
      obtain ⟨hm, hn⟩ := xcOf_ok hx
      obtain ⟨C, c1, c2, c3, c4, c5⟩ := (o.exs k hm).ex
      rw [hn] at c1
      obtain ⟨Hf, oa, ρ, τ, r, a⟩ := q
      refine (ps_raise o.calm o.tk (pmk_own PySem.F.excBase_ValueError c2 c1 c3 (raises_own c4 c5) (o.gl h.1) (okName_1 h.2).1)).run pins s σ H D I ?_
      exact (show AtS (gc P X) B E (M.raise k) Hf oa τ D from a) H Hf oa r.base r.rel.good C (by show X.mg (nameX k) = _; rw [hn]; exact c1)⟩⟩ else none
def mkExpr {e : Expr} (pos : Pos) (A : CE P c e) : Option (CS P c (.Expr e pos)) := if h : isCompE e = false then some ⟨fun _ => fDrop A.f, fun n X E B o => PS.mono (ps_expr (A.ok X E o) (comp_no h _ _ _)) fun _ _ _ q => ts_drop (G := gc P X) q⟩ else none
def mkRet {e : Expr} (pos : Pos) (A : CE P c e) : CS P c (.Return (some e) pos) := ⟨fun _ => fRet A.f, fun n X E B o => PS.mono (ps_ret (A.ok X E o)) fun _ _ _ q => ts_ret (G := gc P X) q⟩
def mkIfS {t : Expr} {a b : List Stmt} (pos : Pos) (T : CT P c t) (A : CSs P c a) (B : CSs P c b) : CS P c (.If t a b pos) := ⟨fun n => fIf T.f (A.f n) (B.f n), fun n X E B' o => PS.mono (ps_if (T.ok X E o) (A.ok n X E B' o) (B.ok n X E B' o)) fun _ _ _ q => ts_if (G := gc P X) q⟩
def mkFor {tg iter : Expr} {body : List Stmt} (pos : Pos) (I : CI P c tg iter) (G : CG P c tg) (A : CSs P c body) : Option (CS P c (.For tg iter body [] pos)) :=
  if h : isSetE iter = false then some ⟨fun n => fFor I.f G.t (A.f n), fun n X E B' o => PS.mono (ps_for o.own o.calm (I.ok X E o) (G.ok X E o) (A.ok n X E B' o) (set_no h _)) fun _ _ _ q => ts_for (G := gc P X) q⟩ else none
def mkWhile {t : Expr} {body : List Stmt} (pos : Pos) (T : CT P c t) (A : CSs P c body) : CS P c (.While t body [] pos) := ⟨fun n => whileF T.f (A.f n) n, fun n X E B' o => PS.mono (ps_while o.own (T.ok X E o) (A.ok n X E B' o)) fun _ _ _ q => ts_while (G := gc P X) q⟩
end
end KF
set_option maxHeartbeats 4000000
/-! KFE: the town: a dict of a count and of rests, changed by draws. -/
namespace KF
open PySem PySem.Spec PyProof.Rows L2
def townOf : D → M (Nat × Int × List (Int × Int))
  | .obj n => fun τ => match τ[n]? with
    | some (.town c r) => .ok (n, c, r) τ
    | none => .stuck
  | _ => M.fail
def putTown (n : Nat) (c : Int) (r : List (Int × Int)) : M Unit := fun τ => .ok () (τ.set n (.town c r))
theorem townOf_ok {d : D} {τ τ' : Tau} {n : Nat} {c : Int} {r : List (Int × Int)} (h : townOf d τ = .ok (n, c, r) τ') : d = .obj n ∧ τ[n]? = some (.town c r) ∧ τ' = τ := by
  cases d <;> try (cases h; done)
  rename_i m
  have h : (match τ[m]? with | some (.town c r) => Res.ok (m, c, r) τ | none => .stuck) = .ok (n, c, r) τ' := h
  split at h
  · cases h; exact ⟨rfl, by assumption, rfl⟩
  · cases h
theorem townOf_exc {d : D} {τ τ' : Tau} {x : XC} (h : townOf d τ = .exc x τ') : False := by
  cases d <;> try (cases h; done)
  rename_i m
  have h : (match τ[m]? with | some (.town c r) => Res.ok (m, c, r) τ | none => .stuck) = .exc x τ' := h
  split at h <;> cases h
/-! ### the mirror -/
def fCount (i : Nat) : Fe := fun ρ => M.bnd (fVar i ρ) fun d => M.bnd (townOf d) fun t => M.ret (.int t.2.1)
def fPutC (i : Nat) (f : Fe) : En → M Out := fun ρ => M.bnd (f ρ) fun e => M.bnd (M.opt (intD e)) fun v => M.bnd (fVar i ρ) fun d => M.bnd (townOf d) fun t => M.bnd (putTown t.1 v t.2.2) fun _ => M.ret (.next ρ)
def lookR (r : List (Int × Int)) (k : Int) : Option Int := (r.find? fun p => decide (p.1 = k)).map (·.2)
def putR (r : List (Int × Int)) (k v : Int) : List (Int × Int) := if (r.any fun p => decide (p.1 = k)) = true then r.map (fun p => if p.1 = k then (p.1, v) else p) else r ++ [(k, v)]
def fRest (i : Nat) (fa fd : Fe) : Fe := fun ρ => M.bnd (fVar i ρ) fun d => M.bnd (townOf d) fun _ => M.bnd (fa ρ) fun a => M.bnd (M.opt (intD a)) fun k => M.bnd (fd ρ) fun z => M.bnd (M.opt (intD z)) fun v => M.bnd (townOf d) fun t => M.ret (.int ((lookR t.2.2 k).getD v))
def fPutR (i : Nat) (fa f : Fe) : En → M Out := fun ρ => M.bnd (f ρ) fun e => M.bnd (M.opt (intD e)) fun v => M.bnd (fVar i ρ) fun d => M.bnd (townOf d) fun _ => M.bnd (fa ρ) fun a => M.bnd (M.opt (intD a)) fun k => M.bnd (townOf d) fun t => if t.2.2.length < SZ then M.bnd (putTown t.1 t.2.1 (putR t.2.2 k v)) fun _ => M.ret (.next ρ) else M.fail
def fTnew : Fe := fun _ τ => .ok (.obj τ.length) (τ ++ [.town 0 []])
section
variable {G : GC} {B : Bs} {E : XK} {σ : L2.St} {H : Hp}
theorem valV_rests (r : List (Int × Int)) (k : Int) : valV (r.map fun p => ((.inl p.1 : Key), V.int p.2)) (.inl k) = (lookR r k).map V.int := by
  unfold valV lookR
  induction r with
  | nil => rfl
  | cons p r ih =>
    rw [List.map_cons, List.find?_cons, List.find?_cons]
    by_cases e : p.1 = k
    · simp [e]
    · have : ¬ (Sum.inl p.1 : Key) = .inl k := fun z => e (Sum.inl.inj z)
      simp only [e, this, decide_false]
      exact ih
theorem putK_rests (r : List (Int × Int)) (k v : Int) : putK (r.map fun p => ((.inl p.1 : Key), V.int p.2)) (.inl k) (.int v) = (putR r k v).map fun p => ((.inl p.1 : Key), V.int p.2) := by
  unfold putK putR
  have e1 : ((r.map fun p => ((.inl p.1 : Key), V.int p.2)).any fun kv => decide (kv.1 = .inl k)) = r.any fun p => decide (p.1 = k) := by
    rw [List.any_map]
    congr 1
    funext p
    simp
  rw [e1]
  split
  · rw [List.map_map, List.map_map]
    congr 1
    funext p
    simp only [Function.comp]
    by_cases e : p.1 = k
    · simp [e]
    · have : ¬ (Sum.inl p.1 : Key) = .inl k := fun z => e (Sum.inl.inj z)
      simp [e, this]
  · simp
/-- where a town stands -/
theorem Good.town {Hf : Hp} {oa : List (List Addr)} {τ : Tau} {n : Nat} {c : Int} {r : List (Int × Int)} (g : Good G Hf oa τ H) (e : τ[n]? = some (.town c r)) : ∃ tw rs, oa[n]? = some [tw, rs] ∧ tw ≠ rs ∧ H tw = some (.dK [(.inr "count", .int c), (.inr "rests", .ref rs)]) ∧ H rs = some (.dK (r.map fun p => (.inl p.1, .int p.2))) := by
  have hn : n < τ.length := by
    rcases Nat.lt_or_ge n τ.length with h | h
    · exact h
    · rw [List.getElem?_eq_none h] at e; cases e
  have hn' : n < oa.length := by rw [g.tok.len]; exact hn
  obtain ⟨tw, rs, e1, h⟩ := g.tok.ob n _ _ (List.getElem?_eq_getElem hn') e
  exact ⟨tw, rs, by rw [List.getElem?_eq_getElem hn', e1], h⟩
theorem rp_town {oa : List (List Addr)} {Hf : Hp} {n : Nat} {v : V} {tw rs : Addr} (r : Rp G oa Hf (.obj n) v) (e : oa[n]? = some [tw, rs]) : v = .ref tw := by
  obtain ⟨a, l, rfl, h⟩ := rp_obj.mp r
  rw [e] at h
  cases h
  rfl
/-- a town's part is written -/
theorem Good.put {Hf : Hp} {oa : List (List Addr)} {τ : Tau} {n : Nat} {o o' : Ob} {l : List Addr} {a : Addr} {u : HO} (g : Good G Hf oa τ H) (el : oa[n]? = some l) (e : τ[n]? = some o) (ha : a ∈ l) {kvs : List (Key × V)} (hk : H a = some (.dK kvs)) (h : ObOk (upd H a u) l o') (nt : ∀ ps, some u ≠ some (.tbl ps) := by intro ps h; cases h) :
    Good G Hf oa (τ.set n o') (upd H a u) ∧ Post G.T Hf oa H Hf oa (upd H a u) := by
  have hv : Vol G.T oa a := .inl ⟨l, List.mem_of_getElem? el, ha⟩
  have hf := g.vol a hv
  obtain ⟨u0, hu0⟩ := g.at hv
  have hx : Ex Hf (upd H a u) := fun b o h => by
    rw [upd_ne (fun z => by rw [z, hf] at h; cases h)]
    exact g.ex b o h
  refine ⟨⟨hx, ⟨by rw [List.length_set]; exact g.tok.len, fun m l' o2 h1 h2 => ?_, g.tok.apart⟩, ?_, g.vol, g.ntb⟩, .rfl', fun b o h nb _ => ?_, fun _ _ _ _ _ => rfl, .rfl', fun _ z => .inl z, fun b o h t => ?_⟩
  · by_cases em : m = n
    · subst em
      rw [el] at h1; cases h1
      rw [List.getElem?_set_self (by rcases Nat.lt_or_ge m τ.length with z | z; exact z; rw [List.getElem?_eq_none z] at e; cases e)] at h2
      cases h2
      exact h
    · rw [List.getElem?_set_ne (Ne.symm em)] at h2
      refine (g.tok.ob m l' o2 h1 h2).stay fun b hb u' hu => ?_
      rw [upd_ne (fun z => g.tok.apart m n l' l b em h1 el hb (by rw [z]; exact ha))]
      exact hu
  · intro p hp
    obtain ⟨ps, h1, h2⟩ := g.tab p hp
    refine ⟨ps, ?_, h2.1, fun pos cv hc => ?_⟩
    · rw [upd_ne (fun z => by rw [z, hk] at h1; cases h1)]
      exact h1
    · obtain ⟨c, e1, e2⟩ := h2.2 pos cv hc
      exact ⟨c, e1, by rw [upd_ne (fun z => by rw [z, hk] at e2; cases e2)]; exact e2⟩
  · rw [upd_ne (fun z => nb (by rw [z]; exact hv))]
    exact h
  · by_cases eb : b = a
    · subst eb; exact ⟨u, upd_same, fun ps z => nt ps (by rw [z])⟩
    · exact ⟨o, by rw [upd_ne eb]; exact h, t⟩
theorem At.town {α β : Type} {R : List (List Addr) → Hp → Hp → α → β → Prop} {d : D} {k : Nat × Int × List (Int × Int) → M α} {Hf : Hp} {oa : List (List Addr)} {τ : Tau} {Q : β → Hp → Prop} (a : At G E R (M.bnd (townOf d) k) Hf oa τ H Q) : ∃ n c r, d = .obj n ∧ τ[n]? = some (.town c r) ∧ At G E R (k (n, c, r)) Hf oa τ H Q := by
  cases e : townOf d τ with
  | ok t τ' =>
    obtain ⟨n, c, r⟩ := t
    obtain ⟨h1, h2, rfl⟩ := townOf_ok e
    refine ⟨n, c, r, h1, h2, ?_⟩
    unfold At at a ⊢
    rw [bnd_ok e] at a
    exact a
  | exc x τ' => exact (townOf_exc e).elim
  | stuck =>
    unfold At at a
    rw [bnd_stuck e] at a
    exact a.elim
theorem AtS.town {d : KF.D} {k : Nat × Int × List (Int × Int) → M Out} {Hf : Hp} {oa : List (List Addr)} {τ : Tau} {D : Ends} (a : AtS G B E (M.bnd (townOf d) k) Hf oa τ D) : ∃ n c r, d = .obj n ∧ τ[n]? = some (.town c r) ∧ AtS G B E (k (n, c, r)) Hf oa τ D := by
  cases e : townOf d τ with
  | ok t τ' =>
    obtain ⟨n, c, r⟩ := t
    obtain ⟨h1, h2, rfl⟩ := townOf_ok e
    refine ⟨n, c, r, h1, h2, ?_⟩
    unfold AtS at a ⊢
    rw [bnd_ok e] at a
    exact a
  | exc x τ' => exact (townOf_exc e).elim
  | stuck =>
    unfold AtS at a
    rw [bnd_stuck e] at a
    exact a.elim
theorem At.opt' {α β γ : Type} {R : List (List Addr) → Hp → Hp → α → β → Prop} {o : Option γ} {k : γ → M α} {Hf : Hp} {oa : List (List Addr)} {τ : Tau} {Q : β → Hp → Prop} (a : At G E R (M.bnd (M.opt o) k) Hf oa τ H Q) : ∃ d, o = some d ∧ At G E R (k d) Hf oa τ H Q := by
  cases o with
  | none => exact a.elim
  | some d => exact ⟨d, rfl, a⟩
theorem intD_ok {d : D} {i : Int} (h : intD d = some i) : d = .int i := by
  cases d <;> cases h
  rfl
theorem ne_cr : ¬ (Sum.inr ("count" : Str) : Key) = .inr ("rests" : Str) := by decide +kernel
theorem valV_rest {c : Int} {rs : Addr} : valV [((.inr "count" : Key), V.int c), (.inr "rests", .ref rs)] (.inr "rests") = some (.ref rs) := by rw [valV_neg ne_cr, valV_pos rfl]
theorem valV_count {c : Int} {rs : Addr} : valV [((.inr "count" : Key), V.int c), (.inr "rests", .ref rs)] (.inr "count") = some (.int c) := valV_pos rfl
theorem putK_count {c v : Int} {rs : Addr} : putK [((.inr "count" : Key), V.int c), (.inr "rests", .ref rs)] (.inr "count") (.int v) = [(.inr "count", .int v), (.inr "rests", .ref rs)] := by
  have : ¬ (Sum.inr ("rests" : Str) : Key) = .inr ("count" : Str) := fun h => ne_cr h.symm
  unfold putK
  simp [this]
/-- town['count'] -/
theorem ev_count {i : Nat} {Q : VK} (h : Ev G E (RE G) (fCount i) σ H Q) : tDGet (tVar i) (tC (.str "count")) σ H Q := by
  obtain ⟨Hf, oa, ρ, τ, rel, a⟩ := h
  refine ev_var (G := G) (E := E) ⟨Hf, oa, ρ, τ, rel, a.bnd fun d τ1 v H1 Hf1 oa1 _ p1 g1 r1 a1 => ?_⟩
  obtain ⟨n, c, r, rfl, e, a2⟩ := a1.town
  obtain ⟨tw, rs, e1, _, e2, _⟩ := g1.town e
  have := rp_town r1 e1
  subst this
  exact ⟨tw, .int c, rfl, .inl ⟨_, .inr "count", .inl e2, rfl, valV_count.symm⟩, a2.ret g1 (rp_int.mpr rfl)⟩
/-- town['count'] = v -/
theorem ts_putC {i : Nat} {f : Fe} {D : Ends} (h : tS G B E (fPutC i f) D σ H) : sDPut (tVar i) (tC (.str "count")) (Ev G E (RE G) f) D σ H := by
  obtain ⟨Hf, oa, ρ, τ, r, a⟩ := h
  refine ⟨Hf, oa, ρ, τ, r.rel, a.bnd r fun d τ1 v H1 Hf1 oa1 _ p1 g1 q1 r1 a1 => ?_⟩
  obtain ⟨i0, hi, b1⟩ := ats_opt a1
  have := intD_ok hi
  subst this
  have q1 := rp_int.mp q1
  subst q1
  refine ev_var (G := G) (E := E) ⟨Hf1, oa1, ρ, τ1, r1.rel, b1.bnd r1 fun d τ2 v H2 Hf2 oa2 _ p2 g2 q2 r2 a2 => ?_⟩
  obtain ⟨n, c, rr, rfl, e, a2⟩ := a2.town
  obtain ⟨tw, rs, e1, ne, e2, e3⟩ := g2.town e
  have := rp_town q2 e1
  subst this
  refine ⟨tw, upd H2 tw (.dK [(.inr "count", .int i0), (.inr "rests", .ref rs)]), rfl, .inl ⟨_, .inr "count", e2, rfl, by rw [sizeLine_eq]; exact (show 2 < 16777216 by decide), by rw [putK_count]⟩, ?_⟩
  obtain ⟨g3, p3⟩ := g2.put (o' := .town i0 rr) (u := .dK [(.inr "count", .int i0), (.inr "rests", .ref rs)]) e1 e (List.mem_cons_self ..) e2 ⟨tw, rs, rfl, ne, upd_same, by rw [upd_ne ne.symm]; exact e3⟩
  exact (show AtS G B E (M.bnd (putTown n i0 rr) fun _ => M.ret (.next ρ)) Hf2 oa2 τ2 D from a2) σ _ Hf2 oa2 .rfl' .rfl' (r2.post p3 g3)
/-- town['rests'].get(k, z) -/
theorem ev_rest {i : Nat} {fa fd : Fe} {Q : VK} (h : Ev G E (RE G) (fRest i fa fd) σ H Q) : tDGet2 (tDGet (tVar i) (tC (.str "rests"))) (Ev G E (RE G) fa) (Ev G E (RE G) fd) σ H Q := by
  obtain ⟨Hf, oa, ρ, τ, rel, a⟩ := h
  unfold tDGet2 tDGet
  refine ev_var (G := G) (E := E) ⟨Hf, oa, ρ, τ, rel, a.bnd fun d τ1 v H1 Hf1 oa1 _ p1 g1 r1 a1 => ?_⟩
  obtain ⟨n, c, r, rfl, e, a2⟩ := a1.town
  obtain ⟨tw, rs, e1, _, e2, e3⟩ := g1.town e
  have := rp_town r1 e1
  subst this
  refine ⟨tw, .ref rs, rfl, .inl ⟨_, .inr "rests", .inl e2, rfl, valV_rest.symm⟩, rs, rfl, .inl ⟨_, .inl e3⟩, Hf1, oa1, ρ, τ1, rel.post p1 g1, a2.bnd fun k τ2 y H2 Hf2 oa2 _ p2 g2 r2 a3 => ?_⟩
  obtain ⟨k0, hk, b3⟩ := At.opt' a3
  have := intD_ok hk
  subst this
  have r2 := rp_int.mp r2
  subst r2
  refine ⟨Hf2, oa2, ρ, τ2, (rel.post p1 g1).post p2 g2, b3.bnd fun z τ3 y H3 Hf3 oa3 _ p3 g3 r3 a4 => ?_⟩
  obtain ⟨z0, hz, b4⟩ := At.opt' a4
  have := intD_ok hz
  subst this
  have r3 := rp_int.mp r3
  subst r3
  obtain ⟨n', c', rr', en, e', a5⟩ := b4.town
  cases en
  obtain ⟨tw', rs', e1', _, _, e3'⟩ := g3.town e'
  rw [p3.oax n _ (p2.oax n _ e1)] at e1'
  cases e1'
  refine ⟨(lookR rr' k0).map V.int, .inl ⟨_, .inl k0, .inl e3', rfl, (valV_rests _ _).symm⟩, a5.ret g3 ?_⟩
  cases lookR rr' k0 <;> exact rp_int.mpr rfl
/-- town['rests'][k] = v -/
theorem ts_putR {i : Nat} {fa f : Fe} {D : Ends} (h : tS G B E (fPutR i fa f) D σ H) : sDPut (tDGet (tVar i) (tC (.str "rests"))) (Ev G E (RE G) fa) (Ev G E (RE G) f) D σ H := by
  obtain ⟨Hf, oa, ρ, τ, r, a⟩ := h
  refine ⟨Hf, oa, ρ, τ, r.rel, a.bnd r fun d τ1 v H1 Hf1 oa1 _ p1 g1 q1 r1 a1 => ?_⟩
  obtain ⟨i0, hi, b1⟩ := ats_opt a1
  have := intD_ok hi
  subst this
  have q1 := rp_int.mp q1
  subst q1
  refine ev_var (G := G) (E := E) ⟨Hf1, oa1, ρ, τ1, r1.rel, b1.bnd r1 fun d τ2 v H2 Hf2 oa2 _ p2 g2 q2 r2 a2 => ?_⟩
  obtain ⟨n, c, rr, rfl, e, a2⟩ := a2.town
  obtain ⟨tw, rs, e1, ne, e2, e3⟩ := g2.town e
  have := rp_town q2 e1
  subst this
  refine ⟨tw, .ref rs, rfl, .inl ⟨_, .inr "rests", .inl e2, rfl, valV_rest.symm⟩, Hf2, oa2, ρ, τ2, r2.rel, a2.bnd r2 fun k τ3 y H3 Hf3 oa3 _ p3 g3 q3 r3 a3 => ?_⟩
  obtain ⟨k0, hk, b3⟩ := ats_opt a3
  have := intD_ok hk
  subst this
  have q3 := rp_int.mp q3
  subst q3
  obtain ⟨n', c', rr', en, e', a4⟩ := b3.town
  cases en
  obtain ⟨tw', rs', e1', ne', e2', e3'⟩ := g3.town e'
  rw [p3.oax n _ e1] at e1'
  cases e1'
  obtain ⟨hl, a4⟩ := ats_ite a4
  refine ⟨rs, upd H3 rs (.dK ((putR rr' k0 i0).map fun p => (.inl p.1, .int p.2))), rfl, .inl ⟨_, .inl k0, e3', rfl, by rw [List.length_map]; exact sz_lt (Nat.le_of_lt hl), by rw [putK_rests]⟩, ?_⟩
  obtain ⟨g5, p5⟩ := g3.put (o' := .town c' (putR rr' k0 i0)) (u := .dK ((putR rr' k0 i0).map fun p => (.inl p.1, .int p.2))) (p3.oax n _ e1) e' (List.mem_cons_of_mem _ (List.mem_cons_self ..)) e3' ⟨tw, rs, rfl, ne, by rw [upd_ne ne]; exact e2', upd_same⟩
  exact (show AtS G B E (M.bnd (putTown n c' (putR rr' k0 i0)) fun _ => M.ret (.next ρ)) Hf3 oa3 τ3 D from a4) σ _ Hf3 oa3 .rfl' .rfl' (r3.post p5 g5)
/-- {'count': 0, 'rests': {}} -/
theorem ev_tnew {Q : VK} (h : Ev G E (RE G) fTnew σ H Q) : tDisp [(tC (.str "count"), tC (.int 0)), (tC (.str "rests"), tDNewK)] σ H Q := by
  obtain ⟨Hf, oa, ρ, τ, rel, a⟩ := h
  intro p hp q hq
  have g := rel.good
  have npq : p ≠ q := fun z => by rw [← z, upd_same] at hq; cases hq
  rw [upd_ne (Ne.symm npq)] at hq
  refine ⟨by rw [upd_ne npq, upd_same], [(.inr "count", .int 0), (.inr "rests", .ref q)], rfl, (show 2 ≤ 15 by decide), ?_⟩
  have hm : mergeK [] [((.inr "count" : Key), V.int 0), (.inr "rests", .ref q)] = [(.inr "count", .int 0), (.inr "rests", .ref q)] := by
    unfold mergeK
    simp only [List.foldl_cons, List.foldl_nil]
    unfold putK
    simp
    exact fun z => ne_cr (congrArg Sum.inr z)
  rw [hm]
  have hH : ∀ b o, H b = some o → upd (upd (upd H p (.dK [])) q (.dK [])) p (.dK [(.inr "count", .int 0), (.inr "rests", .ref q)]) b = some o := fun b o e => by
    rw [upd_ne (ne_of_none e hp), upd_ne (ne_of_none e hq), upd_ne (ne_of_none e hp)]
    exact e
  have hv : ∀ b, VolO (oa ++ [[p, q]]) b → VolO oa b ∨ b = p ∨ b = q := fun b ⟨l, hl, hb⟩ => by
    rcases List.mem_append.mp hl with z | z
    · exact .inl ⟨l, z, hb⟩
    · have := List.mem_singleton.mp z
      subst this
      rcases List.mem_cons.mp hb with z | z
      · exact .inr (.inl z)
      · exact .inr (.inr (List.mem_singleton.mp z))
  have nV : ∀ b, H b = none → ¬ VolO oa b := fun b hb v => by
    obtain ⟨u, e⟩ := g.tok.at v
    rw [hb] at e; cases e
  refine (show At G E (RE G) (fTnew ρ) Hf oa τ H Q from a) (.ref p) _ Hf (oa ++ [[p, q]]) ⟨.rfl', fun b o e _ _ => hH b o e, fun _ _ _ _ _ => rfl, fun n l e => ?_, fun b v => ?_, fun b o e t => ⟨o, hH b o e, t⟩⟩ ⟨fun b o e => hH b o (g.ex b o e), ⟨?_, fun n l o e1 e2 => ?_, fun n m l l' b nm e1 e2 hb => ?_⟩, fun pp hpp => ?_, fun b v => ?_, g.ntb⟩ (rp_obj.mpr ⟨p, [q], rfl, ?_⟩)
  · rw [List.getElem?_append_left (by rcases Nat.lt_or_ge n oa.length with z | z; exact z; rw [List.getElem?_eq_none z] at e; cases e)]
    exact e
  · rcases hv b v with z | z | z
    · exact .inl z
    · exact .inr (.of (z ▸ hp))
    · exact .inr (.of (z ▸ hq))
  · simp [g.tok.len]
  · by_cases hn : n < oa.length
    · rw [List.getElem?_append_left hn] at e1
      rw [List.getElem?_append_left (by rw [← g.tok.len]; exact hn)] at e2
      exact (g.tok.ob n l o e1 e2).stay fun b hb u e => hH b u e
    · rw [List.getElem?_append_right (by omega)] at e1
      rw [List.getElem?_append_right (by rw [← g.tok.len]; omega)] at e2
      rw [← g.tok.len] at e2
      cases hz : n - oa.length with
      | zero =>
        rw [hz] at e1 e2
        cases e1; cases e2
        exact ⟨p, q, rfl, npq, upd_same, by rw [upd_ne (Ne.symm npq), upd_same]; rfl⟩
      | succ k => rw [hz] at e1; simp at e1
  · have last : ∀ k l, ¬ k < oa.length → (oa ++ [[p, q]])[k]? = some l → l = [p, q] ∧ k = oa.length := fun k l hk e => by
      rw [List.getElem?_append_right (by omega)] at e
      cases hz : k - oa.length with
      | zero => rw [hz] at e; cases e; exact ⟨rfl, by omega⟩
      | succ j => rw [hz] at e; simp at e
    have nPQ : ∀ b, VolO oa b → b ≠ p ∧ b ≠ q := fun b v => ⟨fun z => nV p hp (z ▸ v), fun z => nV q hq (z ▸ v)⟩
    by_cases h1 : n < oa.length
    · rw [List.getElem?_append_left h1] at e1
      have v : VolO oa b := ⟨l, List.mem_of_getElem? e1, hb⟩
      by_cases h2 : m < oa.length
      · rw [List.getElem?_append_left h2] at e2
        exact g.tok.apart n m l l' b nm e1 e2 hb
      · obtain ⟨rfl, _⟩ := last m l' h2 e2
        intro z
        rcases List.mem_cons.mp z with z | z
        · exact (nPQ b v).1 z
        · exact (nPQ b v).2 (List.mem_singleton.mp z)
    · obtain ⟨rfl, en⟩ := last n l h1 e1
      by_cases h2 : m < oa.length
      · rw [List.getElem?_append_left h2] at e2
        intro z
        have v : VolO oa b := ⟨l', List.mem_of_getElem? e2, z⟩
        rcases List.mem_cons.mp hb with z | z
        · exact (nPQ b v).1 z
        · exact (nPQ b v).2 (List.mem_singleton.mp z)
      · obtain ⟨_, em⟩ := last m l' h2 e2
        omega
  · exact g.tab.ext (fun b o e => hH b o e) pp hpp
  · rcases v with v | v
    · rcases hv b v with z | z | z
      · exact g.vol b (.inl z)
      · subst z
        cases e : Hf b with
        | none => rfl
        | some o => rw [g.ex b o e] at hp; cases hp
      · subst z
        cases e : Hf b with
        | none => rfl
        | some o => rw [g.ex b o e] at hq; cases hq
    · exact g.vol b (.inr v)
  · show (oa ++ [[p, q]])[τ.length]? = some (p :: [q])
    rw [← g.tok.len]
    simp
end
/-! ### found in the text -/
section
variable {P : Par} {c : Ctx}
theorem pe_slotN {X : Cx} {E : XK} (o : XOk P c X E) {x : Str} {i : Nat} {p : Pos} (hx : slotOf x P.N = some i) (hv : visB c.sc x = true) (hn : okName x = true) : PE X (.Name x p) (tVar i) := pe_var (i := i) (by rw [o.nms]; exact slotOf_some hx) (by rw [o.scp]; exact visB_vis hv) (okName_1 hn).1 (okName_1 hn).2
theorem noSl {k : Const} {j : Nat} {p : Pos} : NoSl (.Constant k j p) := fun _ _ => rfl
theorem noSlN {x : Str} {p : Pos} : NoSl (.Name x p) := fun _ _ => rfl
theorem hu1 {X : Cx} {E : XK} (o : XOk P c X E) : X.A.units + 1 < cLine := by have := o.room.un; omega
def mkCount (x k : Str) (p p2 pos : Pos) (j : Nat) : Option (CE P c (.Subscript (.Name x p) (.Constant (.str k) j p2) pos)) :=
  match hx : slotOf x P.N with
  | none => none
  | some i => if h : k = "count" ∧ visB c.sc x = true ∧ okName x = true then some ⟨fCount i, fun X E o => by
      obtain ⟨h1, h2, h3⟩ := h
      subst h1
      exact PE.mono (pe_dget (hu1 o) (pe_slotN o hx h2 h3) pe_str noSl) fun _ _ _ q => ev_count (G := gc P X) q⟩ else none
def mkPutC {e : Expr} (x k : Str) (p p2 pos' pos : Pos) (j : Nat) (A : CE P c e) : Option (CS P c (.Assign [.Subscript (.Name x p) (.Constant (.str k) j p2) pos'] e pos)) :=
  match hx : slotOf x P.N with
  | none => none
  | some i => if h : k = "count" ∧ visB c.sc x = true ∧ okName x = true ∧ isCompE e = false then some ⟨fun _ => fPutC i A.f, fun n X E B o => by
      obtain ⟨h1, h2, h3, h4⟩ := h
      subst h1
      exact PS.mono (ps_dput (hu1 o) (pe_slotN o hx h2 h3) pe_str (A.ok X E o) (comp_no h4 _ _ _)) fun _ _ _ q => ts_putC (G := gc P X) q⟩ else none
def mkRest {a d : Expr} (x k m : Str) (p p2 p3 ap cp : Pos) (j : Nat) (A : CE P c a) (Z : CE P c d) : Option (CE P c (.Call (.Attribute (.Subscript (.Name x p) (.Constant (.str k) j p2) p3) m ap) [a, d] [] cp)) :=
  match hx : slotOf x P.N with
  | none => none
  | some i => if h : k = "rests" ∧ m = "get" ∧ visB c.sc x = true ∧ okName x = true ∧ isStar a = false ∧ isStar d = false ∧ (ap.endLine == cp.line) = true then some ⟨fRest i A.f Z.f, fun X E o => by
      obtain ⟨h1, h2, h3, h4, h5, h6, h7⟩ := h
      subst h1 h2
      refine PE.mono (pe_dget2 (hu1 o) (pe_dget (hu1 o) (pe_slotN o hx h3 h4) pe_str noSl) (A.ok X E o) (Z.ok X E o) ⟨call_no rfl _ _ _, few_ok (by simp [starOk, h5, h6]) (by simp), h7, ?_⟩) fun _ _ _ q => ev_rest (G := gc P X) q
      rw [star_no h5, star_no h6]
      rfl⟩ else none
def mkPutR {e : Expr} (x k y : Str) (p p2 p3 p4 pos' pos : Pos) (j : Nat) (K : CE P c (.Name y p4)) (A : CE P c e) : Option (CS P c (.Assign [.Subscript (.Subscript (.Name x p) (.Constant (.str k) j p2) p3) (.Name y p4) pos'] e pos)) :=
  match hx : slotOf x P.N with
  | none => none
  | some i => if h : k = "rests" ∧ visB c.sc x = true ∧ okName x = true ∧ isCompE e = false then some ⟨fun _ => fPutR i K.f A.f, fun n X E B o => by
      obtain ⟨h1, h2, h3, h4⟩ := h
      subst h1
      exact PS.mono (ps_dput (hu1 o) (pe_dget (hu1 o) (pe_slotN o hx h2 h3) pe_str noSl) (K.ok X E o) (A.ok X E o) (comp_no h4 _ _ _)) fun _ _ _ q => ts_putR (G := gc P X) q⟩ else none
def mkTnew (a b : Str) (z : Int) (j1 j2 j3 : Nat) (p1 p2 p3 p4 pos : Pos) : Option (CE P c (.Dict [some (.Constant (.str a) j1 p1), some (.Constant (.str b) j2 p2)] [.Constant (.int z) j3 p3, .Dict [] [] p4] pos)) :=
  if h : a = "count" ∧ b = "rests" ∧ z = 0 then some ⟨fTnew, fun X E o => by
    obtain ⟨h1, h2, h3⟩ := h
    subst h1 h2 h3
    exact PE.mono (pe_disp (pps_cons pe_str pe_int (pps_cons pe_str pe_dnewK pps_nil)) rfl rfl (by simp) (show 2 ≤ 15 by decide)) fun _ _ _ q => ev_tnew (G := gc P X) q⟩ else none
end
end KF
set_option maxHeartbeats 4000000
/-! KFH: zip of three, enumerate of a tuple. -/
namespace KF
open PySem PySem.Spec PyProof.Rows L2
/-! ### lists and tuples alike -/
def SqB (b : Bool) (K : PySem.W.Frag) (H : Hp) (a : Addr) (xs : List V) : Prop := if b = true then SqL K H a xs else SqT K H a xs
def IterB (b : Bool) (h : Heap) (it a : Addr) (i : Nat) : Prop := if b = true then h.IsListIter it a i else h.IsTupleIter it a i
def StB (b : Bool) (it a : Addr) (its : Array Value) (i : Nat) (h : Heap) : Prop := IterB b h it a i ∧ (if b = true then h.IsList a its else h.IsTuple a its)
def iterO (b : Bool) (a : Addr) : Obj := { cls := .type (if b = true then "list_iterator" else "tuple_iterator"), data := .fields #[.ref a, .int 0 0] }
theorem draws_B {prog : Program} {w : World} {A : Around} (b : Bool) (hh : A.handled = none) (it a : Addr) (hne : a ≠ it) (its : Array Value) : Draws prog w A it [it, a] its.size (fun i v => its[i]? = some v) (StB b it a its) := by
  cases b with
  | true => exact Draws.list hh it a hne its
  | false => exact Draws.tuple hh it a hne its
theorem begins_B (b : Bool) (a : Addr) (its : Array Value) : Begins (.ref a) (iterO b a) fun h => if b = true then h.IsList a its else h.IsTuple a its := by
  cases b with
  | true => exact begins_list a its
  | false => exact begins_tuple a its
theorem sq_items {b : Bool} {X : Cx} {pins : List (Addr × Obj)} {σ : L2.St} {H : Hp} {s : Shared} {a : Addr} {xs : List V} (I : Inv X pins σ H s) (h : SqB b X.K H a xs) : ∃ its : List Value, Vals xs its ∧ (if b = true then s.heap.IsList a its.toArray else s.heap.IsTuple a its.toArray) ∧ a < s.heap.objs.size := by
  cases b with
  | true =>
    obtain ⟨its, rv, p, _⟩ := I.list h
    exact ⟨its, rv, p.isList, p.lt⟩
  | false =>
    obtain ⟨its, rv, p, _⟩ := I.tuple h
    obtain ⟨o, ho, _⟩ := id p
    exact ⟨its, rv, p, Heap.lt_size ho⟩
theorem sq_inj {b : Bool} {X : Cx} {pins : List (Addr × Obj)} {σ : L2.St} {H : Hp} {s : Shared} {a : Addr} {xs ys : List V} (I : Inv X pins σ H s) (h : SqB b X.K H a xs) (k : SqB b X.K H a ys) : xs = ys := by
  cases b with
  | true => exact I.list_inj h k
  | false => exact I.tuple_inj h k
theorem iter_at {b : Bool} {h h' : Heap} {it a : Addr} {i : Nat} (x : IterB b h it a i) (k : ∀ o, h.get? it = some o → h'.get? it = some o) : IterB b h' it a i := by
  cases b with
  | true => exact Heap.IsListIter.at x fun o e => k o e
  | false => exact Heap.IsTupleIter.at x fun o e => k o e
theorem iter_obj {b : Bool} {h : Heap} {it a : Addr} {i : Nat} (x : IterB b h it a i) : ∃ o, h.get? it = some o ∧ ∀ v, o.data ≠ .cell v := by
  cases b with
  | true =>
    obtain ⟨o, e1, _, d1⟩ := (show h.IsListIter it a i from x)
    exact ⟨o, e1, fun v q => by rw [d1] at q; cases q⟩
  | false =>
    obtain ⟨o, e1, _, d1⟩ := (show h.IsTupleIter it a i from x)
    exact ⟨o, e1, fun v q => by rw [d1] at q; cases q⟩
theorem iter_new {b : Bool} {h : Heap} {it a : Addr} (e : h.get? it = some (iterO b a)) : IterB b h it a 0 := by
  cases b with
  | true => exact ⟨_, e, rfl, rfl⟩
  | false => exact ⟨_, e, rfl, rfl⟩
/-! ### enumerate -/
def ItE (b : Bool) (K : PySem.W.Frag) (a : Addr) : It :=
  ⟨fun i H => ∃ (xs : List V) (x : V), SqB b K H a xs ∧ xs[i]? = some x, fun i H v H' => ∃ T x, v = .ref T ∧ H T = none ∧ H' = upd H T (.tup [.int (i : Nat), x]) ∧ ∀ xs, SqB b K H a xs → xs[i]? = some x, fun i H => ∃ xs : List V, SqB b K H a xs ∧ i = xs.length⟩
theorem turn_enumB {P : Program} {w : World} {K : PySem.W.Frag} {elts : List Expr} {kk : Nat} {tpos : Pos} {b : Bool} {a e it : Addr} (hei : e ≠ it) (hea : e ≠ a) (hia : a ≠ it) :
    Turn P w K (.Tuple elts kk tpos) (ItE b K a) [e, it] e (fun i h => (∃ old, IsEnum h e it ((i : Nat) : Int) old) ∧ IterB b h it a i) where
  mem := by simp
  obj := fun i h st c hc => by
    obtain ⟨⟨old, he⟩, hi⟩ := st
    have e' : c = e ∨ c = it := by simpa using hc
    rcases e' with z | z
    · rw [z]; exact ⟨_, he, fun v q => nomatch q⟩
    · rw [z]; exact iter_obj hi
  keep := fun i h h' st k => let ⟨⟨old, he⟩, hi⟩ := st; ⟨⟨old, k e (by simp) _ he⟩, iter_at hi fun o q => k it (by simp) o q⟩
  item := by
    intro X hP hw hK hc i pins s σ H E I hf st hg
    subst hP hw hK
    obtain ⟨⟨old, he⟩, hit⟩ := st
    obtain ⟨xs, x, hq, hx⟩ := hg
    obtain ⟨its, rv, p, hz⟩ := sq_items I hq
    obtain ⟨u, hu, ru⟩ := rv.get hx
    have hel : e < s.heap.objs.size := Heap.lt_size he
    have hil : it < s.heap.objs.size := by obtain ⟨_, q, _⟩ := iter_obj hit; exact Heap.lt_size q
    have W := WalksT.enumerateD (draws_B (prog := X.prog) (w := X.w) (A := X.A.in1) b (I.ok.hd hc) it a hia its.toArray) e hei (by simp [hei, hea]) (by simp)
    have hlt : i < its.toArray.size := by
      rcases Nat.lt_or_ge i its.length with z | z
      · simpa using z
      · rw [List.getElem?_eq_none z] at hu; cases hu
    refine W.item i s _ E hlt ⟨⟨old, he⟩, hit, p⟩ fun T vals h' tk pt hle hT mid hk => ?_
    refine ⟨_, rfl, W.go elts kk tpos i T { s with heap := h', toks := tk } _ E mid fun h'' st'' hk2 => ?_⟩
    obtain ⟨t, y, hy, rfl⟩ := pt
    have ey : y = u := by
      have hy : its[i]? = some y := by simpa using hy
      rw [hu] at hy; exact (Option.some.inj hy).symm
    subst ey
    have nT := W.apart i T _ mid
    have hT2 : h''.IsTuple T #[.int i t, y] := hT.at fun o q => hk2 T o nT q
    have new : ObjOk X.prog X.w (upd H T (.tup [.int (i : Nat), x])) h'' T (.tup [.int (i : Nat), x]) := ⟨by show 2 ≤ sizeLine; decide, [.int i t, y], .cons ⟨_, rfl⟩ (.cons ru .nil), hT2⟩
    have I1 : Inv X pins σ (upd H T (.tup [.int (i : Nat), x])) { s with heap := h'', toks := tk } := I.turnedNew (ch := [e, it]) (fun c o hb q => hk2 c o hb (hk c o hb q)) hf hle new
    refine ⟨.ref T, _, I1, rfl, ⟨T, x, rfl, I.hok.fresh hle, rfl, fun ys hy => by rw [sq_inj I hy hq]; exact hx⟩, ⟨st''.1, st''.2.1⟩, fun c hb => ?_⟩
    have hb' : c < s.heap.objs.size := by
      have e' : c = e ∨ c = it := by simpa using hb
      rcases e' with z | z
      · rw [z]; exact hel
      · rw [z]; exact hil
    rw [upd_ne (Nat.ne_of_lt (Nat.lt_of_lt_of_le hb' hle))]
    exact (hf c hb).1
  done := by
    intro X hP hw hK hc i pins s σ H E I hf st hg
    subst hP hw hK
    obtain ⟨⟨old, he⟩, hit⟩ := st
    obtain ⟨xs, hq, hx⟩ := hg
    obtain ⟨its, rv, p, hz⟩ := sq_items I hq
    have W := WalksT.enumerateD (draws_B (prog := X.prog) (w := X.w) (A := X.A.in1) b (I.ok.hd hc) it a hia its.toArray) e hei (by simp [hei, hea]) (by simp)
    have hl := rv.length
    have en : i = its.toArray.size := by simp; omega
    subst en
    exact W.done s _ E ⟨⟨old, he⟩, hit, p⟩ fun h' tk hk => ⟨rfl, I.turnedL (ch := [e, it]) hk hf⟩
  self := fun A i s Q E st h => let ⟨⟨_, he⟩, _⟩ := st; wpAny_pyIter_enum he h
theorem meets_enum_B {v : Value} {o : Obj} {H : Heap → Prop} (B : Begins v o H) :
    Meets (Builtin.«enumerate.__new__» ⟨[.type "enumerate", v], []⟩) (fun _ R s => H s.heap ∧
      R (.ok (.ret (.ref (s.heap.push o).objs.size))) { s with heap := (s.heap.push o).push { cls := .type "enumerate", data := .fields #[.none, .bool false, .ref s.heap.objs.size, rawInt 0, .none, .none] } }) :=
  .of_wp fun prog w A R s h => by
    obtain ⟨hp, g, d, tk, os⟩ := s; obtain ⟨h1, h⟩ := h
    have hsub := sub_enumerate
    have q1 : ∀ {A' : Around} {E : Value → Shared → Prop} {Q : Value → Shared → Prop}, Q (.ref hp.objs.size) ⟨hp.push o, g, d, tk, os⟩ → wpAny (model prog w) A' (pyIter v) Q E ⟨hp, g, d, tk, os⟩ :=
      fun q => B.iter prog w _ _ ⟨hp, g, d, tk, os⟩ _ h1 q
    wp_walk using q1
    refine wpAny_stack_any fun st => wpAny_pure ?_
    split
    · rename_i c _ _ _ _ _
      cases (c == Value.type "enumerate")
      · wp_walk using q1
        exact ⟨_, rfl, h⟩
      · wp_walk using q1
        exact ⟨_, rfl, h⟩
    · wp_walk using q1
      exact ⟨_, rfl, h⟩
theorem call_enum_B {prog : Program} {w : World} {A : Around} {E : Value → Shared → Prop} {s : Shared} {v : Value} {o : Obj} {H : Heap → Prop} {Q : Value → Shared → Prop} (B : Begins v o H) (h1 : H s.heap)
    (h : ∀ h', IsEnum h' (s.heap.objs.size + 1) s.heap.objs.size 0 .none → h'.get? s.heap.objs.size = some o → (∀ b o, s.heap.get? b = some o → h'.get? b = some o) → Q (.ref (s.heap.objs.size + 1)) { s with heap := h' }) :
    wpAny (model prog w) A (call (.type "enumerate") [v]) Q E s := by
  refine callType_new F.called_enumerate (by decide) (F.typeCall_enumerate_1 _) (F.newCall_enumerate_1 _) (fun obj => F.args_object_init_2 obj _) F.entry_enumerate_new (meets_enum_B B) ⟨h1, ?_⟩
  have hz : (s.heap.push o).objs.size = s.heap.objs.size + 1 := Heap.size_push ..
  show _ ∧ _
  rw [hz]
  have he : IsEnum ((s.heap.push o).push { cls := .type "enumerate", data := .fields #[.none, .bool false, .ref s.heap.objs.size, rawInt 0, .none, .none] }) (s.heap.objs.size + 1) s.heap.objs.size 0 .none := by
    have := Heap.get?_push_size (s.heap.push o) (o := { cls := .type "enumerate", data := .fields #[.none, .bool false, .ref s.heap.objs.size, rawInt 0, .none, .none] }) rfl
    rw [hz] at this; exact this
  exact ⟨⟨_, he, rfl⟩, h _ he (Heap.get?_push_of_some _ (Heap.get?_push_size _ B.free)) fun b o x => Heap.get?_push_of_some _ (Heap.get?_push_of_some _ x)⟩
def iEnumB (K : PySem.W.Frag) (ta : TA) : TI := fun σ H R => ta σ H fun vs H1 => ∃ b a xs, vs = [.ref a] ∧ SqB b K H1 a xs ∧ R (ItE b K a) H1
theorem pi_enumB {X : Cx} {e : Expr} {ta : TA} {p pos tpos : Pos} {elts : List Expr} {kk : Nat} (hg : Gl X "enumerate") (hm : X.mg "enumerate" = none) (ha : PA X [e] ta) (hs : starEach [e] X.env = [(false, eval e X.env)]) :
    PI X (.Tuple elts kk tpos) (.Call (.Name "enumerate" p) [e] [] pos) (iEnumB X.K ta) := by
  refine ⟨fun pins s σ H R I h => ?_⟩
  refine Call_ (ld_blt I hg hm boot_enumerate (PyProof.Rows.callWith_type1 (thn (ha.run pos pins s σ H _ I h) fun us s1 ⟨vs, H1, I1, r1, q1⟩ => ?_) hs rfl))
  obtain ⟨b, a, xs, ex, hq, q⟩ := q1
  subst ex
  cases r1 with
  | cons r rr =>
    cases rr
    cases r
    obtain ⟨its, rv, p', hz⟩ := sq_items I1 hq
    refine call_enum_B (begins_B b a its.toArray) p' fun h' he hit hk => wpAny_pyIter_enum he ?_
    have I2 : Inv X pins σ H1 { s1 with heap := h' } := I1.kept (t' := s1.toks) hk
    refine ⟨s1.heap.objs.size + 1, [s1.heap.objs.size + 1, s1.heap.objs.size], _, _, H1, rfl, I2, turn_enumB (b := b) (a := a) (Nat.succ_ne_self _) (Nat.ne_of_gt (Nat.lt_succ_of_lt hz)) (Nat.ne_of_lt hz), ⟨⟨.none, he⟩, iter_new hit⟩, fun c hb => ?_, q⟩
    have e' : c = s1.heap.objs.size + 1 ∨ c = s1.heap.objs.size := by simpa using hb
    have hle : s1.heap.objs.size ≤ c := by
      rcases e' with z | z
      · rw [z]; exact Nat.le_add_right _ _
      · rw [z]; exact Nat.le_refl _
    exact I1.fpOk hle (I1.hok.fresh hle)
/-! ### readings -/
section
variable {G : GC}
theorem SqB.ex {b : Bool} {H H' : Hp} {a : Addr} {xs : List V} (e : Ex H H') (h : SqB b G.K H a xs) : SqB b G.K H' a xs := by
  cases b with
  | true => exact e.l h
  | false => exact e.t h
theorem rp_items {oa : List (List Addr)} {Hf : Hp} {d : D} {l : List D} {v : V} (e : items0 d = some l) (r : Rp G oa Hf d v) : ∃ b a xs, v = .ref a ∧ SqB b G.K Hf a xs ∧ RpA G oa Hf l xs := by
  cases d <;> cases e
  · obtain ⟨a, xs, rfl, h1, h2⟩ := rp_tup.mp r
    exact ⟨false, a, xs, rfl, h1, h2⟩
  · obtain ⟨a, xs, rfl, h1, h2⟩ := rp_lst.mp r
    exact ⟨true, a, xs, rfl, .inl h1, h2⟩
theorem yl_enumB {oa : List (List Addr)} {Hf : Hp} {la : List D} {b : Bool} {a : Addr} {xs : List V} (h1 : SqB b G.K Hf a xs) (h2 : RpA G oa Hf la xs) : Yl G oa Hf (ItE b G.K a) (la.zipIdx.map fun p => .tup [.int (p.2 : Nat), p.1]) := by
  intro i Hf1 H1 oa1 e1 e2 o1
  have hs : SqB b G.K H1 a xs := (h1.ex e1).ex e2
  have hr := h2.mono e1 o1
  have la' := hr.length
  have hl : (la.zipIdx.map fun p => D.tup [.int (p.2 : Nat), p.1]).length = la.length := by simp
  rw [hl]
  refine ⟨fun hi => ?_, fun hi => ⟨xs, hs, by omega⟩⟩
  obtain ⟨v, hv, rv⟩ := hr.get (List.getElem?_eq_getElem hi)
  refine ⟨⟨xs, v, hs, hv⟩, fun x H2 hy => ?_⟩
  obtain ⟨T, x1, rfl, nT, rfl, k1⟩ := hy
  have z1 := k1 xs hs
  rw [hv] at z1
  cases z1
  have pu := Pure.new (o := .tup [.int (i : Nat), v]) e2 nT
  refine ⟨_, .tup [.int (i : Nat), la[i]], pu, ?_, rp_tup.mpr ⟨T, _, rfl, .of upd_same, rpa_cons.mpr ⟨.int (i : Nat), [v], rfl, rp_int.mpr rfl, .one (rv.mono pu.exf .rfl')⟩⟩⟩
  simp [hi]
def enumA : List D → Option (List D)
  | [d] => (items0 d).map fun a => (a.zipIdx).map fun p => .tup [.int (p.2 : Nat), p.1]
  | _ => none
theorem ev_enumA {E : XK} {fa : Fa} {σ : L2.St} {H : Hp} {R : It → Hp → Prop} (h : Ev G E (RI G) (fRng enumA fa) σ H R) : iEnumB G.K (Ev G E (RA G) fa) σ H R := by
  obtain ⟨Hf, oa, ρ, τ, rel, a⟩ := h
  refine ⟨Hf, oa, ρ, τ, rel, a.bnd fun ds τ1 x H1 Hf1 oa1 _ p1 g1 r1 a1 => ?_⟩
  obtain ⟨l, e, a2⟩ := a1.opt
  match ds, e with
  | [d], e =>
    obtain ⟨la, e1, rfl⟩ := Option.map_eq_some_iff.mp e
    obtain ⟨v, rfl, h1⟩ := rpa_one r1
    obtain ⟨b, p, xs, rfl, h1, h2⟩ := rp_items e1 h1
    exact ⟨b, p, xs, rfl, h1.ex g1.ex, a2.ret g1 (yl_enumB h1 h2)⟩
end
section
variable {P : Par} {c : Ctx}
def mkEnumA {a : Expr} {elts : List Expr} {kk : Nat} {tpos : Pos} (x : Str) (p pos : Pos) (A : CA P c [a]) : Option (CI P c (.Tuple elts kk tpos) (.Call (.Name x p) [a] [] pos)) :=
  if h : x = "enumerate" ∧ glB c.sc x = true ∧ isStar a = false then some ⟨fRng enumA A.f, fun X E o => by
    obtain ⟨h1, h2, h3⟩ := h
    subst h1
    exact PI.mono (pi_enumB (o.gl h2) (o.mg (by decide)) (A.ok X E o) (star_no h3 _ _)) fun _ _ _ q => ev_enumA (G := gc P X) q⟩ else none
end
end KF
set_option maxHeartbeats 4000000
/-! KFI: zip of three, walked, and list(zip(a, b, c)). -/
namespace KF
open PySem PySem.Spec PyProof.Rows L2
/-! ### walked -/
def ItZ (b1 b2 b3 : Bool) (K : PySem.W.Frag) (a1 a2 a3 : Addr) : It :=
  ⟨fun i H => ∃ (xs ys zs : List V) (x y z : V), SqB b1 K H a1 xs ∧ SqB b2 K H a2 ys ∧ SqB b3 K H a3 zs ∧ xs[i]? = some x ∧ ys[i]? = some y ∧ zs[i]? = some z,
   fun i H v H' => ∃ T x y z, v = .ref T ∧ H T = none ∧ H' = upd H T (.tup [x, y, z]) ∧ (∀ xs, SqB b1 K H a1 xs → xs[i]? = some x) ∧ (∀ xs, SqB b2 K H a2 xs → xs[i]? = some y) ∧ ∀ xs, SqB b3 K H a3 xs → xs[i]? = some z,
   fun i H => ∃ xs ys zs : List V, SqB b1 K H a1 xs ∧ SqB b2 K H a2 ys ∧ SqB b3 K H a3 zs ∧ i = min (min xs.length ys.length) zs.length⟩
theorem turn_zip3 {P : Program} {w : World} {K : PySem.W.Frag} {elts : List Expr} {kk : Nat} {tpos : Pos} {b1 b2 b3 : Bool} {a1 a2 a3 z TI TO i1 i2 i3 : Addr} (S : ZipSep3 z TI TO i1 i2 i3 [i1, a1] [i2, a2] [i3, a3]) (h1 : a1 ≠ i1) (h2 : a2 ≠ i2) (h3 : a3 ≠ i3) :
    Turn P w K (.Tuple elts kk tpos) (ItZ b1 b2 b3 K a1 a2 a3) [z, TI, TO, i1, i2, i3] z (fun i h => IsZip h z TI TO .none ∧ IsTupOf3 h TI (.ref i1) (.ref i2) (.ref i3) ∧ (∃ u v w, IsTupOf3 h TO u v w) ∧ IterB b1 h i1 a1 i ∧ IterB b2 h i2 a2 i ∧ IterB b3 h i3 a3 i) where
  mem := by simp
  obj := fun i h st c hc => by
    obtain ⟨q1, q2, ⟨u, v, w', q3⟩, q4, q5, q6⟩ := st
    have e' : c = z ∨ c = TI ∨ c = TO ∨ c = i1 ∨ c = i2 ∨ c = i3 := by simpa using hc
    rcases e' with e | e | e | e | e | e
    · rw [e]; exact ⟨_, q1, fun v q => nomatch q⟩
    · rw [e]; exact ⟨_, q2, fun v q => nomatch q⟩
    · rw [e]; exact ⟨_, q3, fun v q => nomatch q⟩
    · rw [e]; exact iter_obj q4
    · rw [e]; exact iter_obj q5
    · rw [e]; exact iter_obj q6
  keep := fun i h h' st k => by
    obtain ⟨q1, q2, ⟨u, v, w', q3⟩, q4, q5, q6⟩ := st
    exact ⟨k z (by simp) _ q1, k TI (by simp) _ q2, ⟨u, v, w', k TO (by simp) _ q3⟩, iter_at q4 fun o q => k i1 (by simp) o q, iter_at q5 fun o q => k i2 (by simp) o q, iter_at q6 fun o q => k i3 (by simp) o q⟩
  item := by
    intro X hP hw hK hc i pins s σ H E I hf st hg
    subst hP hw hK
    obtain ⟨q1, q2, ⟨u1, u2, u3, q3⟩, q4, q5, q6⟩ := st
    obtain ⟨xs, ys, zs, x, y, z', hx, hy, hz, ex, ey, ez⟩ := hg
    obtain ⟨its1, rv1, p1, _⟩ := sq_items I hx
    obtain ⟨its2, rv2, p2, _⟩ := sq_items I hy
    obtain ⟨its3, rv3, p3, _⟩ := sq_items I hz
    obtain ⟨v1, e1, r1⟩ := rv1.get ex
    obtain ⟨v2, e2, r2⟩ := rv2.get ey
    obtain ⟨v3, e3, r3⟩ := rv3.get ez
    have hd := I.ok.hd hc
    have W := WalksT.zipD3 S (draws_B (prog := X.prog) (w := X.w) (A := X.A.in1) b1 hd i1 a1 h1 its1.toArray) (draws_B (prog := X.prog) (w := X.w) (A := X.A.in1) b2 hd i2 a2 h2 its2.toArray) (draws_B (prog := X.prog) (w := X.w) (A := X.A.in1) b3 hd i3 a3 h3 its3.toArray)
    have lt : ∀ {l : List Value} {v : Value}, l[i]? = some v → i < l.toArray.size := fun {l v} e => by
      rcases Nat.lt_or_ge i l.length with z | z
      · simpa using z
      · rw [List.getElem?_eq_none z] at e; cases e
    have l1 := lt e1
    have l2 := lt e2
    have l3 := lt e3
    refine W.item i s _ E (by omega) ⟨q1, q2, ⟨u1, u2, u3, q3⟩, ⟨q4, p1⟩, ⟨q5, p2⟩, ⟨q6, p3⟩⟩ fun T vals h' tk pt hle hT mid hk => ?_
    refine ⟨_, rfl, W.go elts kk tpos i T { s with heap := h', toks := tk } _ E mid fun h'' st'' hk2 => ?_⟩
    obtain ⟨w1, w2, w3, k1, k2, k3, rfl⟩ := pt
    have ew : ∀ {l : List Value} {v v' : Value}, l[i]? = some v → l.toArray[i]? = some v' → v' = v := fun {l v v'} e q => by
      have q : l[i]? = some v' := by simpa using q
      rw [e] at q; exact (Option.some.inj q).symm
    have g1 := ew e1 k1
    have g2 := ew e2 k2
    have g3 := ew e3 k3
    subst g1 g2 g3
    have nT := W.apart i T _ mid
    have hT2 : h''.IsTuple T #[w1, w2, w3] := hT.at fun o q => hk2 T o nT q
    have new : ObjOk X.prog X.w (upd H T (.tup [x, y, z'])) h'' T (.tup [x, y, z']) := ⟨by show 3 ≤ sizeLine; decide, [w1, w2, w3], .cons r1 (.cons r2 (.cons r3 .nil)), hT2⟩
    have fpw : ∀ c ∈ [z, TO, i1, i2, i3], FpOk X pins H c := fun c hb => hf c (by
      have e' : c = z ∨ c = TO ∨ c = i1 ∨ c = i2 ∨ c = i3 := by simpa using hb
      rcases e' with e | e | e | e | e <;> simp [e])
    have I1 : Inv X pins σ (upd H T (.tup [x, y, z'])) { s with heap := h'', toks := tk } := I.turnedNew (ch := [z, TO, i1, i2, i3]) (fun c o hb q => hk2 c o hb (hk c o hb q)) fpw hle new
    obtain ⟨t1, t2, t3, t4, t5, t6⟩ := st''
    refine ⟨.ref T, _, I1, rfl, ⟨T, x, y, z', rfl, I.hok.fresh hle, rfl, fun ys hy' => by rw [sq_inj I hy' hx]; exact ex, fun ys hy' => by rw [sq_inj I hy' hy]; exact ey, fun ys hy' => by rw [sq_inj I hy' hz]; exact ez⟩, ⟨t1, t2, t3, t4.1, t5.1, t6.1⟩, fun c hb => ?_⟩
    have hb' : c < s.heap.objs.size := by
      have e' : c = z ∨ c = TI ∨ c = TO ∨ c = i1 ∨ c = i2 ∨ c = i3 := by simpa using hb
      rcases e' with e | e | e | e | e | e
      · rw [e]; exact Heap.lt_size q1
      · rw [e]; exact Heap.lt_size q2
      · rw [e]; exact Heap.lt_size q3
      · rw [e]; obtain ⟨_, q, _⟩ := iter_obj q4; exact Heap.lt_size q
      · rw [e]; obtain ⟨_, q, _⟩ := iter_obj q5; exact Heap.lt_size q
      · rw [e]; obtain ⟨_, q, _⟩ := iter_obj q6; exact Heap.lt_size q
    rw [upd_ne (Nat.ne_of_lt (Nat.lt_of_lt_of_le hb' hle))]
    exact (hf c hb).1
  done := by
    intro X hP hw hK hc i pins s σ H E I hf st hg
    subst hP hw hK
    obtain ⟨q1, q2, ⟨u1, u2, u3, q3⟩, q4, q5, q6⟩ := st
    obtain ⟨xs, ys, zs, hx, hy, hz, en⟩ := hg
    obtain ⟨its1, rv1, p1, _⟩ := sq_items I hx
    obtain ⟨its2, rv2, p2, _⟩ := sq_items I hy
    obtain ⟨its3, rv3, p3, _⟩ := sq_items I hz
    have hd := I.ok.hd hc
    have W := WalksT.zipD3 S (draws_B (prog := X.prog) (w := X.w) (A := X.A.in1) b1 hd i1 a1 h1 its1.toArray) (draws_B (prog := X.prog) (w := X.w) (A := X.A.in1) b2 hd i2 a2 h2 its2.toArray) (draws_B (prog := X.prog) (w := X.w) (A := X.A.in1) b3 hd i3 a3 h3 its3.toArray)
    have l1 := rv1.length
    have l2 := rv2.length
    have l3 := rv3.length
    have en : i = min (min its1.toArray.size its2.toArray.size) its3.toArray.size := by simp; omega
    subst en
    refine W.done s _ E ⟨q1, q2, ⟨u1, u2, u3, q3⟩, ⟨q4, p1⟩, ⟨q5, p2⟩, ⟨q6, p3⟩⟩ fun h' tk hk => ⟨rfl, I.turnedL (ch := [z, TO, i1, i2, i3]) hk fun c hb => hf c ?_⟩
    have e' : c = z ∨ c = TO ∨ c = i1 ∨ c = i2 ∨ c = i3 := by simpa using hb
    rcases e' with e | e | e | e | e <;> simp [e]
  self := fun A i s Q E st h => wpAny_pyIter_zip st.1 h
/-- the arguments: three lists or tuples -/
def sq3 (K : PySem.W.Frag) (H : Hp) (vs : List V) (R : Bool → Bool → Bool → Addr → Addr → Addr → List V → List V → List V → Prop) : Prop :=
  ∃ b1 b2 b3 a1 a2 a3 xs ys zs, vs = [.ref a1, .ref a2, .ref a3] ∧ SqB b1 K H a1 xs ∧ SqB b2 K H a2 ys ∧ SqB b3 K H a3 zs ∧ R b1 b2 b3 a1 a2 a3 xs ys zs
def iZip3 (K : PySem.W.Frag) (ta : TA) : TI := fun σ H R => ta σ H fun vs H1 => sq3 K H1 vs fun b1 b2 b3 a1 a2 a3 _ _ _ => R (ItZ b1 b2 b3 K a1 a2 a3) H1
theorem pi_zip3 {X : Cx} {e e2 e3 : Expr} {ta : TA} {p pos tpos : Pos} {elts : List Expr} {kk : Nat} (hg : Gl X "zip") (hm : X.mg "zip" = none) (ha : PA X [e, e2, e3] ta) (hs : starEach [e, e2, e3] X.env = (false, eval e X.env) :: starEach [e2, e3] X.env) (hs2 : (backTo pos (starEach [e2, e3] X.env)).any (·.1) = false) :
    PI X (.Tuple elts kk tpos) (.Call (.Name "zip" p) [e, e2, e3] [] pos) (iZip3 X.K ta) := by
  refine ⟨fun pins s σ H R I h => ?_⟩
  refine Call_ (ld_blt I hg hm boot_zip (PyProof.Rows.callWith_type1 (thn (ha.run pos pins s σ H _ I h) fun us s1 ⟨vs, H1, I1, r1, q1⟩ => ?_) hs hs2))
  obtain ⟨b1, b2, b3, a1, a2, a3, xs, ys, zs, ex, hx, hy, hz, q⟩ := q1
  subst ex
  cases r1 with
  | cons r rr =>
  cases rr with
  | cons r' rr =>
  cases rr with
  | cons r'' rr =>
    cases rr
    cases r
    cases r'
    cases r''
    obtain ⟨its1, rv1, p1, l1⟩ := sq_items I1 hx
    obtain ⟨its2, rv2, p2, l2⟩ := sq_items I1 hy
    obtain ⟨its3, rv3, p3, l3⟩ := sq_items I1 hz
    refine zip_begins3 (begins_B b1 a1 its1.toArray) (begins_B b2 a2 its2.toArray) (begins_B b3 a3 its3.toArray) p1 p2 p3 fun h' hz' hTI hTO e1 e2 e3 hsz hk => wpAny_pyIter_zip hz' ?_
    have I2 : Inv X pins σ H1 { s1 with heap := h' } := I1.kept (t' := s1.toks) hk
    have S := zip_sep3 (N := s1.heap.objs.size) (fp1 := [a1]) (fp2 := [a2]) (fp3 := [a3]) (fun b hb => by rw [List.mem_singleton.mp hb]; exact l1) (fun b hb => by rw [List.mem_singleton.mp hb]; exact l2) (fun b hb => by rw [List.mem_singleton.mp hb]; exact l3)
    have n1 : a1 ≠ s1.heap.objs.size := Nat.ne_of_lt l1
    have n2 : a2 ≠ s1.heap.objs.size + 1 := Nat.ne_of_lt (Nat.lt_succ_of_lt l2)
    have n3 : a3 ≠ s1.heap.objs.size + 2 := Nat.ne_of_lt (Nat.lt_succ_of_lt (Nat.lt_succ_of_lt l3))
    refine ⟨s1.heap.objs.size + 5, [s1.heap.objs.size + 5, s1.heap.objs.size + 3, s1.heap.objs.size + 4, s1.heap.objs.size, s1.heap.objs.size + 1, s1.heap.objs.size + 2], _, _, H1, rfl, I2, turn_zip3 S n1 n2 n3, ⟨hz', hTI, ⟨_, _, _, hTO⟩, iter_new e1, iter_new e2, iter_new e3⟩, fun c hb => ?_, q⟩
    have e' : c = s1.heap.objs.size + 5 ∨ c = s1.heap.objs.size + 3 ∨ c = s1.heap.objs.size + 4 ∨ c = s1.heap.objs.size ∨ c = s1.heap.objs.size + 1 ∨ c = s1.heap.objs.size + 2 := by simpa using hb
    have hle : s1.heap.objs.size ≤ c := by
      rcases e' with e | e | e | e | e | e <;> rw [e] <;> first | exact Nat.le_refl _ | exact Nat.le_add_right _ _
    exact I1.fpOk hle (I1.hok.fresh hle)
/-! ### next, while the tuple that was given out is still there -/
section
variable {prog : Program} {w : World} {A : Around} {E : Value → Shared → Prop} {s : Shared} {z TI TO T i1 i2 i3 : Addr} {f : Bool} {oT : Obj} {fp1 fp2 fp3 : List Addr} {n1 n2 n3 i : Nat} {P1 P2 P3 : Nat → Value → Prop} {St1 St2 St3 : Nat → Heap → Prop}
theorem zip3_held_item {Q : Value → Shared → Prop} (S : ZipSep3 z TI TO i1 i2 i3 fp1 fp2 fp3) (D1 : Draws prog w A i1 fp1 n1 P1 St1) (D2 : Draws prog w A i2 fp2 n2 P2 St2) (D3 : Draws prog w A i3 fp3 n3 P3 St3)
    (hz : IsZipHeld s.heap z TI TO T f) (hT : s.heap.get? T = some oT) (hTI : IsTupOf3 s.heap TI (.ref i1) (.ref i2) (.ref i3)) (st1 : St1 i s.heap) (st2 : St2 i s.heap) (st3 : St3 i s.heap) (hlt1 : i < n1) (hlt2 : i < n2) (hlt3 : i < n3)
    (hQ : ∀ x1 x2 x3 h' tk, P1 i x1 → P2 i x2 → P3 i x3 → IsZipHeld h' z TI TO T true → St1 (i + 1) h' → St2 (i + 1) h' → St3 (i + 1) h' → IsTupOf3 h' s.heap.objs.size x1 x2 x3 → h'.objs.size = s.heap.objs.size + 1 →
      (∀ c o, c ≠ z → c ≠ i1 → c ≠ i2 → c ≠ i3 → s.heap.get? c = some o → h'.get? c = some o) → Q (.ref s.heap.objs.size) { s with heap := h', toks := tk }) :
    wpAny (model prog w) A (Builtin.«zip.__next__» ⟨[.ref z], []⟩) (fun fin s' => ∃ v, fin = .done (.ret v) ∧ Q v s') E s := by
  obtain ⟨hp, g, d, tk0, os⟩ := s
  show wpAny _ _ (field (.ref z) 2 >>= _) _ _ _
  refine wpAny_bind (wpAny_field hz rfl (x := .bool false) rfl ?_)
  show wpAny _ _ (field (.ref z) 3 >>= _) _ _ _
  refine wpAny_bind (wpAny_field hz rfl (x := .ref TI) rfl ?_)
  refine wpAny_bind (wpAny_seqItems hTI rfl ?_)
  show wpAny _ _ (Builtin.SmallTypes.ownedTupleIsFree (.ref z) >>= _) _ _ _
  refine wpAny_bind (wpAny_tupleHeld_zip hz hT fun h₁ hz₁ hs₁ => ?_)
  simp only [Bool.false_eq_true, if_false]
  refine wpAny_bind ?_
  rw [← Array.forIn_toList]
  simp only [List.forIn_cons, List.forIn_nil]
  refine wpAny_bind (wpAny_bind (wpAny_holding ?_))
  show wpAny _ _ (Builtin.SmallTypes.nextOf (.ref i1) >>= _) _ _ ⟨h₁, g, d, tk0, os⟩
  refine wpAny_bind (D1.item i _ _ _ hlt1 (D1.over st1 hs₁ S.zf1) fun x1 p1 tk1 hx1 sn1 hp1 => wpAny_pure ?_)
  replace hp1 : Heap.SameBut i1 h₁ p1 := hp1
  refine wpAny_pure ?_
  refine wpAny_bind (wpAny_bind (wpAny_holding ?_))
  show wpAny _ _ (Builtin.SmallTypes.nextOf (.ref i2) >>= _) _ _ ⟨p1, g, d, tk1, os⟩
  refine wpAny_bind (D2.item i _ _ _ hlt2 (D2.over (D2.over st2 hs₁ S.zf2) hp1 S.sep1_2) fun x2 p2 tk2 hx2 sn2 hp2 => wpAny_pure ?_)
  replace hp2 : Heap.SameBut i2 p1 p2 := hp2
  refine wpAny_pure ?_
  refine wpAny_bind (wpAny_bind (wpAny_holding ?_))
  show wpAny _ _ (Builtin.SmallTypes.nextOf (.ref i3) >>= _) _ _ ⟨p2, g, d, tk2, os⟩
  refine wpAny_bind (D3.item i _ _ _ hlt3 (D3.over (D3.over (D3.over st3 hs₁ S.zf3) hp1 S.sep1_3) hp2 S.sep2_3) fun x3 p3 tk3 hx3 sn3 hp3 => wpAny_pure ?_)
  replace hp3 : Heap.SameBut i3 p2 p3 := hp3
  refine wpAny_pure (wpAny_pure ?_)
  show wpAny _ _ (newTuple [x1, x2, x3] >>= _) _ _ ⟨p3, g, d, tk3, os⟩
  refine wpAny_bind (wpAny_newTuple ?_)
  have hsz : p3.objs.size = hp.objs.size := by rw [hp3.1, hp2.1, hp1.1, hs₁.1]
  have hz₃ : IsZipHeld p3 z TI TO T true := hp3.extBut _ _ S.zi3 (hp2.extBut _ _ S.zi2 (hp1.extBut _ _ S.zi1 hz₁))
  have hk : ∀ c o, c ≠ z → c ≠ i1 → c ≠ i2 → c ≠ i3 → hp.get? c = some o → p3.get? c = some o := fun c o c1 c2 c3 c4 e => hp3.extBut _ _ c4 (hp2.extBut _ _ c3 (hp1.extBut _ _ c2 (hs₁.extBut _ _ c1 e)))
  refine wpAny_pure ⟨_, rfl, ?_⟩
  show Q (.ref p3.objs.size) _
  have hp' : IsTupOf3 (p3.push { cls := .type "tuple", data := .seq #[x1, x2, x3] }) p3.objs.size x1 x2 x3 := Heap.get?_push_size _ rfl
  have hz4 : (p3.push { cls := .type "tuple", data := .seq #[x1, x2, x3] }).objs.size = p3.objs.size + 1 := Heap.size_push ..
  rw [hsz] at hp' hz4 ⊢
  exact hQ x1 x2 x3 _ tk3 hx1 hx2 hx3 (Heap.get?_push_of_some _ hz₃) (D1.frame _ _ _ (D1.over (D1.over sn1 hp2 S.sep2_1) hp3 S.sep3_1) fun b _ o e => Heap.get?_push_of_some _ e) (D2.frame _ _ _ (D2.over sn2 hp3 S.sep3_2) fun b _ o e => Heap.get?_push_of_some _ e) (D3.frame _ _ _ sn3 fun b _ o e => Heap.get?_push_of_some _ e)
    hp' hz4 fun c o c1 c2 c3 c4 e => Heap.get?_push_of_some _ (hk c o c1 c2 c3 c4 e)
theorem zip3_held_end {Q : PySem.Fin → Shared → Prop} (S : ZipSep3 z TI TO i1 i2 i3 fp1 fp2 fp3) (D1 : Draws prog w A i1 fp1 n1 P1 St1) (D2 : Draws prog w A i2 fp2 n2 P2 St2) (D3 : Draws prog w A i3 fp3 n3 P3 St3)
    (hz : IsZipHeld s.heap z TI TO T f) (hT : s.heap.get? T = some oT) (hTI : IsTupOf3 s.heap TI (.ref i1) (.ref i2) (.ref i3)) (st1 : St1 i s.heap) (st2 : St2 i s.heap) (st3 : St3 i s.heap) (hle1 : i ≤ n1) (hle2 : i ≤ n2) (hle3 : i ≤ n3) (hend : i = n1 ∨ i = n2 ∨ i = n3)
    (hE : ∀ h' tk e, (∀ c o, c ≠ z → c ≠ i1 → c ≠ i2 → c ≠ i3 → s.heap.get? c = some o → h'.get? c = some o) → (∃ o, h'.get? e = some o ∧ o.cls = .type "StopIteration") → E (.ref e) { s with heap := h', toks := tk }) :
    wpAny (model prog w) A (Builtin.«zip.__next__» ⟨[.ref z], []⟩) Q E s := by
  obtain ⟨hp, g, d, tk0, os⟩ := s
  show wpAny _ _ (field (.ref z) 2 >>= _) _ _ _
  refine wpAny_bind (wpAny_field hz rfl (x := .bool false) rfl ?_)
  show wpAny _ _ (field (.ref z) 3 >>= _) _ _ _
  refine wpAny_bind (wpAny_field hz rfl (x := .ref TI) rfl ?_)
  refine wpAny_bind (wpAny_seqItems hTI rfl ?_)
  show wpAny _ _ (Builtin.SmallTypes.ownedTupleIsFree (.ref z) >>= _) _ _ _
  refine wpAny_bind (wpAny_tupleHeld_zip hz hT fun h₁ hz₁ hs₁ => ?_)
  simp only [Bool.false_eq_true, if_false]
  refine wpAny_bind ?_
  rw [← Array.forIn_toList]
  simp only [List.forIn_cons, List.forIn_nil]
  refine wpAny_bind (wpAny_bind (wpAny_holding ?_))
  show wpAny _ _ (Builtin.SmallTypes.nextOf (.ref i1) >>= _) _ _ ⟨h₁, g, d, tk0, os⟩
  by_cases hlt1 : i < n1
  · refine wpAny_bind (D1.item i _ _ _ hlt1 (D1.over st1 hs₁ S.zf1) fun x1 p1 tk1 hx1 sn1 hp1 => wpAny_pure ?_)
    replace hp1 : Heap.SameBut i1 h₁ p1 := hp1
    refine wpAny_pure ?_
    refine wpAny_bind (wpAny_bind (wpAny_holding ?_))
    show wpAny _ _ (Builtin.SmallTypes.nextOf (.ref i2) >>= _) _ _ ⟨p1, g, d, tk1, os⟩
    by_cases hlt2 : i < n2
    · refine wpAny_bind (D2.item i _ _ _ hlt2 (D2.over (D2.over st2 hs₁ S.zf2) hp1 S.sep1_2) fun x2 p2 tk2 hx2 sn2 hp2 => wpAny_pure ?_)
      replace hp2 : Heap.SameBut i2 p1 p2 := hp2
      have hi3 : i = n3 := by omega
      refine wpAny_pure ?_
      refine wpAny_bind (wpAny_bind (wpAny_holding ?_))
      show wpAny _ _ (Builtin.SmallTypes.nextOf (.ref i3) >>= _) _ _ ⟨p2, g, d, tk2, os⟩
      refine wpAny_bind (D3.done ⟨p2, g, d, tk2, os⟩ _ _ (by rw [← hi3]; exact D3.over (D3.over (D3.over st3 hs₁ S.zf3) hp1 S.sep1_3) hp2 S.sep2_3) fun q e hq he => ?_)
      exact hE q tk2 e (fun c o c1 c2 c3 c4 x => hq _ _ c4 (hp2.extBut _ _ c3 (hp1.extBut _ _ c2 (hs₁.extBut _ _ c1 x)))) he
    · have hi2 : i = n2 := by omega
      refine wpAny_bind (D2.done ⟨p1, g, d, tk1, os⟩ _ _ (by rw [← hi2]; exact D2.over (D2.over st2 hs₁ S.zf2) hp1 S.sep1_2) fun q e hq he => ?_)
      exact hE q tk1 e (fun c o c1 c2 c3 c4 x => hq _ _ c3 (hp1.extBut _ _ c2 (hs₁.extBut _ _ c1 x))) he
  · have hi1 : i = n1 := by omega
    refine wpAny_bind (D1.done ⟨h₁, g, d, tk0, os⟩ _ _ (by rw [← hi1]; exact D1.over st1 hs₁ S.zf1) fun q e hq he => ?_)
    exact hE q tk0 e (fun c o c1 c2 c3 c4 x => hq _ _ c2 (hs₁.extBut _ _ c1 x)) he
theorem next_held_item {Q : Option Value → Shared → Prop} (S : ZipSep3 z TI TO i1 i2 i3 fp1 fp2 fp3) (D1 : Draws prog w A.in1 i1 fp1 n1 P1 St1) (D2 : Draws prog w A.in1 i2 fp2 n2 P2 St2) (D3 : Draws prog w A.in1 i3 fp3 n3 P3 St3)
    (hz : IsZipHeld s.heap z TI TO T f) (hT : s.heap.get? T = some oT) (hTI : IsTupOf3 s.heap TI (.ref i1) (.ref i2) (.ref i3)) (st1 : St1 i s.heap) (st2 : St2 i s.heap) (st3 : St3 i s.heap) (hlt1 : i < n1) (hlt2 : i < n2) (hlt3 : i < n3)
    (hQ : ∀ x1 x2 x3 h' tk, P1 i x1 → P2 i x2 → P3 i x3 → IsZipHeld h' z TI TO T true → St1 (i + 1) h' → St2 (i + 1) h' → St3 (i + 1) h' → IsTupOf3 h' s.heap.objs.size x1 x2 x3 → h'.objs.size = s.heap.objs.size + 1 →
      (∀ c o, c ≠ z → c ≠ i1 → c ≠ i2 → c ≠ i3 → s.heap.get? c = some o → h'.get? c = some o) → Q (some (.ref s.heap.objs.size)) { s with heap := h', toks := tk }) :
    wpAny (model prog w) A (pyNext (.ref z)) Q E s := by
  have hTy : s.TypeIs (.ref z) "zip" := ⟨_, hz, rfl⟩
  unfold pyNext
  exact wpAny_bind (wpAny_attempt (wpAny_callSpecial?_slot (name := Str.ofString "__next__") hTy F.slot_zip_next
    (wpAny_call_entry F.slot_zip_next hTy F.entry_zip_next
      (zip3_held_item S D1 D2 D3 hz hT hTI st1 st2 st3 hlt1 hlt2 hlt3 fun x1 x2 x3 h' tk y1 y2 y3 b1 d1 d2 d3 b5 b6 b7 => wpAny_pure (hQ x1 x2 x3 h' tk y1 y2 y3 b1 d1 d2 d3 b5 b6 b7)) (F.args_zip_next_1 _))))
theorem next_held_end {Q : Option Value → Shared → Prop} (S : ZipSep3 z TI TO i1 i2 i3 fp1 fp2 fp3) (D1 : Draws prog w A.in1 i1 fp1 n1 P1 St1) (D2 : Draws prog w A.in1 i2 fp2 n2 P2 St2) (D3 : Draws prog w A.in1 i3 fp3 n3 P3 St3)
    (hz : IsZipHeld s.heap z TI TO T f) (hT : s.heap.get? T = some oT) (hTI : IsTupOf3 s.heap TI (.ref i1) (.ref i2) (.ref i3)) (st1 : St1 i s.heap) (st2 : St2 i s.heap) (st3 : St3 i s.heap) (hle1 : i ≤ n1) (hle2 : i ≤ n2) (hle3 : i ≤ n3) (hend : i = n1 ∨ i = n2 ∨ i = n3)
    (hQ : ∀ h' tk, (∀ c o, c ≠ z → c ≠ i1 → c ≠ i2 → c ≠ i3 → s.heap.get? c = some o → h'.get? c = some o) → Q none { s with heap := h', toks := tk }) : wpAny (model prog w) A (pyNext (.ref z)) Q E s := by
  have hTy : s.TypeIs (.ref z) "zip" := ⟨_, hz, rfl⟩
  unfold pyNext
  refine wpAny_bind (wpAny_attempt (wpAny_callSpecial?_slot (name := Str.ofString "__next__") hTy F.slot_zip_next
    (wpAny_call_entry F.slot_zip_next hTy F.entry_zip_next (zip3_held_end S D1 D2 D3 hz hT hTI st1 st2 st3 hle1 hle2 hle3 hend fun h' tk e hk he => ?_) (F.args_zip_next_1 _))))
  obtain ⟨o, ho, hc⟩ := he
  refine wpAny_bind (wpAny_isInstance (T := "StopIteration") (b := true) ⟨o, ho, hc⟩ isSubtype_stop ?_)
  exact wpAny_pure (hQ _ _ hk)
/-! ### the list's loop -/
/-- the zip before turn i -/
def ZSt (z TI TO i1 i2 i3 : Addr) (St1 St2 St3 : Nat → Heap → Prop) (i : Nat) (h : Heap) : Prop :=
  ((IsZip h z TI TO .none ∧ ∃ u v w, IsTupOf3 h TO u v w) ∨ ∃ T f oT, IsZipHeld h z TI TO T f ∧ h.get? T = some oT ∧ T ≠ z ∧ T ≠ i1 ∧ T ≠ i2 ∧ T ≠ i3) ∧ (∃ o, h.get? TO = some o) ∧ IsTupOf3 h TI (.ref i1) (.ref i2) (.ref i3) ∧ St1 i h ∧ St2 i h ∧ St3 i h
/-- the tuples so far -/
def Tups (P1 P2 P3 : Nat → Value → Prop) (cells : List Addr) (N : Nat) (h : Heap) (Ts : List Addr) : Prop :=
  Ts.Nodup ∧ ∀ (j : Nat) (T : Addr), Ts[j]? = some T → N ≤ T ∧ T ∉ cells ∧ ∃ x1 x2 x3, P1 j x1 ∧ P2 j x2 ∧ P3 j x3 ∧ IsTupOf3 h T x1 x2 x3
theorem Tups.keep {cells : List Addr} {N : Nat} {h h' : Heap} {Ts : List Addr} (t : Tups P1 P2 P3 cells N h Ts) (k : ∀ c o, c ∉ cells → h.get? c = some o → h'.get? c = some o) : Tups P1 P2 P3 cells N h' Ts :=
  ⟨t.1, fun j T e => by
    obtain ⟨a, b, x1, x2, x3, p1, p2, p3, q⟩ := t.2 j T e
    exact ⟨a, b, x1, x2, x3, p1, p2, p3, k T _ b q⟩⟩
theorem Tups.snoc {cells : List Addr} {N : Nat} {h : Heap} {Ts : List Addr} {T : Addr} {x1 x2 x3 : Value} (t : Tups P1 P2 P3 cells N h Ts) (hN : N ≤ T) (hc : T ∉ cells) (hn : T ∉ Ts) (p1 : P1 Ts.length x1) (p2 : P2 Ts.length x2) (p3 : P3 Ts.length x3) (q : IsTupOf3 h T x1 x2 x3) : Tups P1 P2 P3 cells N h (Ts ++ [T]) := by
  refine ⟨List.nodup_append.mpr ⟨t.1, by simp, fun a ha b hb e => hn (by rw [List.mem_singleton.mp hb] at e; rw [← e]; exact ha)⟩, fun j T' e => ?_⟩
  rcases Nat.lt_trichotomy j Ts.length with z | z | z
  · rw [List.getElem?_append_left z] at e
    exact t.2 j T' e
  · subst z
    rw [List.getElem?_append_right (Nat.le_refl _)] at e
    simp at e
    subst e
    exact ⟨hN, hc, x1, x2, x3, p1, p2, p3, q⟩
  · rw [List.getElem?_eq_none (by simp; omega)] at e
    cases e
theorem ext_zip3 {R : Result → Shared → Prop} {n : Nat} (S : ZipSep3 z TI TO i1 i2 i3 fp1 fp2 fp3) (D1 : Draws prog w A.in1.in1 i1 fp1 n1 P1 St1) (D2 : Draws prog w A.in1.in1 i2 fp2 n2 P2 St2) (D3 : Draws prog w A.in1.in1 i3 fp3 n3 P3 St3) (hn : n = min (min n1 n2) n3) (hsz : n ≤ sizeLine)
    (L : Addr) (hL1 : L ∉ fp1) (hL2 : L ∉ fp2) (hL3 : L ∉ fp3) (hLz : L ≠ z) (hLI : L ≠ TI) (hLO : L ≠ TO) (res : Value) (N : Nat) :
    ∀ (k i : Nat) (s : Shared) (acc : Array Value) (c : Nat) (Ts : List Addr), n - i = k → i ≤ n → ZSt z TI TO i1 i2 i3 St1 St2 St3 i s.heap → s.heap.get? L = some { cls := .type "list", dict := none, data := .seq acc c, slots := #[] } → acc.toList = Ts.map Value.ref → Ts.length = i → N ≤ s.heap.objs.size →
    Tups P1 P2 P3 [L, z, TO, i1, i2, i3] N s.heap Ts →
    (∀ h' tk acc' c' Ts', (∀ b o, b ∉ [L, z, TO, i1, i2, i3] → s.heap.get? b = some o → h'.get? b = some o) → h'.get? L = some { cls := .type "list", dict := none, data := .seq acc' c', slots := #[] } → acc'.toList = Ts'.map Value.ref → Ts'.length = n → Tups P1 P2 P3 [L, z, TO, i1, i2, i3] N h' Ts' → R (.ok (.ret res)) { s with heap := h', toks := tk }) →
    codeAny (model prog w) A (.builtin "list.extend.loop" ⟨[.ref L, .ref z, res], []⟩) R s := by
  have hL1' : L ≠ i1 := fun e => hL1 (by rw [e]; exact S.mem1)
  have hL2' : L ≠ i2 := fun e => hL2 (by rw [e]; exact S.mem2)
  have hL3' : L ≠ i3 := fun e => hL3 (by rw [e]; exact S.mem3)
  intro k
  induction k with
  | zero =>
    intro i s acc c Ts hk hi hst hS hacc hlen hN hT hR
    have hin : i = n := by omega
    refine codeAny_builtin F.entry_extend_loop ?_
    rw [Around.under_plainId F.plain_extend_loop _]
    show wpAny _ A.in1 (pyNext (.ref z) >>= _) _ _ s
    obtain ⟨h0, ⟨oO, hO⟩, hTI, st1, st2, st3⟩ := hst
    rcases h0 with ⟨hz, u, v, w', hTO⟩ | ⟨T, f, oT, hz, hTo, t1, t2, t3, t4⟩
    · refine wpAny_bind (wpAny_pyNext_zipD3_end S D1 D2 D3 hz hTI hTO st1 st2 st3 (by omega) (by omega) (by omega) (by omega) fun h' tk hk' => ?_)
      have kk : ∀ b o, b ∉ [L, z, TO, i1, i2, i3] → s.heap.get? b = some o → h'.get? b = some o := fun b o hb e => hk' b o (fun q => hb (by simp [q])) (fun q => hb (by simp [q])) (fun q => hb (by simp [q])) (fun q => hb (by simp [q])) (fun q => hb (by simp [q])) e
      exact wpAny_pure (hR h' tk acc c Ts kk (hk' L _ hLz hLO hL1' hL2' hL3' hS) hacc (by omega) (hT.keep kk))
    · refine wpAny_bind (next_held_end S D1 D2 D3 hz hTo hTI st1 st2 st3 (by omega) (by omega) (by omega) (by omega) fun h' tk hk' => ?_)
      have kk : ∀ b o, b ∉ [L, z, TO, i1, i2, i3] → s.heap.get? b = some o → h'.get? b = some o := fun b o hb e => hk' b o (fun q => hb (by simp [q])) (fun q => hb (by simp [q])) (fun q => hb (by simp [q])) (fun q => hb (by simp [q])) e
      exact wpAny_pure (hR h' tk acc c Ts kk (hk' L _ hLz hL1' hL2' hL3' hS) hacc (by omega) (hT.keep kk))
  | succ k ih =>
    intro i s acc c Ts hk hi hst hS hacc hlen hN hT hR
    have hlt : i < n := by omega
    refine codeAny_builtin F.entry_extend_loop ?_
    rw [Around.under_plainId F.plain_extend_loop _]
    show wpAny _ A.in1 (pyNext (.ref z) >>= _) _ _ s
    obtain ⟨h0, ⟨oO, hO⟩, hTI, st1, st2, st3⟩ := hst
    have asz : acc.size = i := by
      have := congrArg List.length hacc
      simp at this
      omega
    have live : ∀ {b : Addr}, (∃ o, s.heap.get? b = some o) → s.heap.objs.size ≠ b := fun ⟨o, e⟩ => Nat.ne_of_gt (Heap.lt_size e)
    have hzl : ∃ o, s.heap.get? z = some o := by
      rcases h0 with ⟨hz, _⟩ | ⟨_, _, _, hz, _⟩
      · exact ⟨_, hz⟩
      · exact ⟨_, hz⟩
    have ncell : s.heap.objs.size ∉ [L, z, TO, i1, i2, i3] := fun hm => by
      have e' : s.heap.objs.size = L ∨ s.heap.objs.size = z ∨ s.heap.objs.size = TO ∨ s.heap.objs.size = i1 ∨ s.heap.objs.size = i2 ∨ s.heap.objs.size = i3 := by simpa using hm
      rcases e' with q | q | q | q | q | q
      · exact live ⟨_, hS⟩ q
      · exact live hzl q
      · exact live ⟨_, hO⟩ q
      · exact live (D1.live _ _ st1) q
      · exact live (D2.live _ _ st2) q
      · exact live (D3.live _ _ st3) q
    -- what follows a turn
    have go : ∀ (x1 x2 x3 : Value) (h' : Heap) (tk : Nat), P1 i x1 → P2 i x2 → P3 i x3 → (∃ T f oT, IsZipHeld h' z TI TO T f ∧ h'.get? T = some oT ∧ T ≠ z ∧ T ≠ i1 ∧ T ≠ i2 ∧ T ≠ i3) → (∃ o, h'.get? TO = some o) → IsTupOf3 h' TI (.ref i1) (.ref i2) (.ref i3) → St1 (i + 1) h' → St2 (i + 1) h' → St3 (i + 1) h' → IsTupOf3 h' s.heap.objs.size x1 x2 x3 → h'.objs.size = s.heap.objs.size + 1 →
        (∀ b o, b ∉ [z, TO, i1, i2, i3] → s.heap.get? b = some o → h'.get? b = some o) →
        wpAny (model prog w) A.in1 (updateSeq L (·.push (.ref s.heap.objs.size)) >>= fun _ => pure (PySem.Fin.again (.builtin "list.extend.loop" ⟨[.ref L, .ref z, res], []⟩))) (fun fin s' => match fin with | .done f => R (.ok f) s' | .again c' => c'.quiet = true ∧ codeAny (model prog w) A c' R s') (fun e s' => R (.error e) s') { s with heap := h', toks := tk } := by
      intro x1 x2 x3 h' tk px1 px2 px3 hz' hO' hTI' s1' s2' s3' hT' hsz' hk'
      have hS' : h'.get? L = some { cls := .type "list", dict := none, data := .seq acc c, slots := #[] } := hk' L _ (by simp [hLz, hLO, hL1', hL2', hL3']) hS
      have oth : ∀ b o, b ≠ L → h'.get? b = some o → (h'.update L (Obj.mapSeq (·.push (.ref s.heap.objs.size)))).get? b = some o := fun b o hb e => (Heap.get?_update_other _ _ (Ne.symm hb)).trans e
      have NL : s.heap.objs.size ≠ L := live ⟨_, hS⟩
      have kk : ∀ b o, b ∉ [L, z, TO, i1, i2, i3] → s.heap.get? b = some o → (h'.update L (Obj.mapSeq (·.push (.ref s.heap.objs.size)))).get? b = some o := fun b o hb e => oth b o (fun q => hb (by simp [q])) (hk' b o (fun q => hb (List.mem_cons_of_mem _ q)) e)
      refine wpAny_bind (wpAny_updateSeq (s := { s with heap := h', toks := tk }) hS' rfl (wpAny_pure ⟨plainId_quiet F.plain_extend_loop _, ?_⟩) (by show acc.size ≤ _; omega) (by show (acc.push _).size ≤ sizeLine + 1; rw [Array.size_push]; omega))
      have hL2' := Heap.get?_update_self (Obj.mapSeq (·.push (Value.ref s.heap.objs.size))) hS' rfl
      refine ih (i + 1) _ (acc.push (.ref s.heap.objs.size)) _ (Ts ++ [s.heap.objs.size]) (by omega) hlt ⟨.inr ?_, ?_, ?_, ?_, ?_, ?_⟩ hL2' ?_ (by simp [hlen]) ?_ ?_ ?_
      · obtain ⟨T, f, oT, q1, q2, q3, q4, q5, q6⟩ := hz'
        by_cases hTL : T = L
        · subst hTL
          exact ⟨T, f, _, oth _ _ (Ne.symm q3) q1, hL2', q3, q4, q5, q6⟩
        · exact ⟨T, f, oT, oth _ _ (Ne.symm hLz) q1, oth _ _ hTL q2, q3, q4, q5, q6⟩
      · obtain ⟨o, e⟩ := hO'
        exact ⟨o, oth _ _ (Ne.symm hLO) e⟩
      · exact oth _ _ (Ne.symm hLI) hTI'
      · exact D1.frame _ _ _ s1' fun b hb o e => oth b o (fun q => hL1 (q ▸ hb)) e
      · exact D2.frame _ _ _ s2' fun b hb o e => oth b o (fun q => hL2 (q ▸ hb)) e
      · exact D3.frame _ _ _ s3' fun b hb o e => oth b o (fun q => hL3 (q ▸ hb)) e
      · rw [Array.toList_push, hacc, List.map_append]; rfl
      · show N ≤ (h'.update L _).objs.size
        have : s.heap.objs.size < (h'.update L (Obj.mapSeq (·.push (.ref s.heap.objs.size)))).objs.size := Heap.lt_size (oth _ _ NL hT')
        exact Nat.le_trans hN (Nat.le_of_lt this)
      · refine (hT.keep kk).snoc hN ncell (fun hm => ?_) (by rw [hlen]; exact px1) (by rw [hlen]; exact px2) (by rw [hlen]; exact px3) (oth _ _ NL hT')
        obtain ⟨j, hj, e⟩ := List.mem_iff_getElem.mp hm
        obtain ⟨_, _, _, _, _, _, _, _, q⟩ := hT.2 j _ (by rw [List.getElem?_eq_getElem hj, e])
        exact absurd (Heap.lt_size q) (Nat.lt_irrefl _)
      · intro h2 tk2 acc2 c2 Ts2 k2 e1 e2 e3 e4
        exact hR h2 tk2 acc2 c2 Ts2 (fun b o hb e => k2 b o hb (kk b o hb e)) e1 e2 e3 e4
    rcases h0 with ⟨hz, u, v, w', hTO⟩ | ⟨T, f, oT, hz, hTo, t1, t2, t3, t4⟩
    · refine wpAny_bind (wpAny_pyNext_zipD3_item S D1 D2 D3 hz hTI hTO st1 st2 st3 (by omega) (by omega) (by omega) fun x1 x2 x3 h' tk y1 y2 y3 b1 b2 d1 d2 d3 b5 b6 hk' => ?_)
      exact go x1 x2 x3 h' tk y1 y2 y3 ⟨s.heap.objs.size, false, _, b1, b5, live hzl, live (D1.live _ _ st1), live (D2.live _ _ st2), live (D3.live _ _ st3)⟩ ⟨_, b2⟩ (hk' _ _ S.TIz S.TITO S.TIi1 S.TIi2 S.TIi3 hTI) d1 d2 d3 b5 b6 fun b o hb e => hk' b o (fun q => hb (by simp [q])) (fun q => hb (by simp [q])) (fun q => hb (by simp [q])) (fun q => hb (by simp [q])) (fun q => hb (by simp [q])) e
    · refine wpAny_bind (next_held_item S D1 D2 D3 hz hTo hTI st1 st2 st3 (by omega) (by omega) (by omega) fun x1 x2 x3 h' tk y1 y2 y3 b1 d1 d2 d3 b5 b6 hk' => ?_)
      exact go x1 x2 x3 h' tk y1 y2 y3 ⟨T, true, oT, b1, hk' _ _ t1 t2 t3 t4 hTo, t1, t2, t3, t4⟩ ⟨_, hk' _ _ S.TOz S.Ti1 S.Ti2 S.Ti3 hO⟩ (hk' _ _ S.TIz S.TIi1 S.TIi2 S.TIi3 hTI) d1 d2 d3 b5 b6 fun b o hb e => hk' b o (fun q => hb (by simp [q])) (fun q => hb (by simp [q])) (fun q => hb (by simp [q])) (fun q => hb (by simp [q])) e
theorem zip_nolen : typeLookup (.type "zip") "__len__" = pure none := by rw [typeLookup_type, builtinLookup_eq_fast]; kernel_rfl
theorem zip_nohint : typeLookup (.type "zip") "__length_hint__" = pure none := by rw [typeLookup_type, builtinLookup_eq_fast]; kernel_rfl
/-- list(z) -/
theorem call_list_zip3 {Q : Value → Shared → Prop} {n : Nat} {N : Nat} (S : ZipSep3 z TI TO i1 i2 i3 fp1 fp2 fp3) (D1 : Draws prog w A.in1.in1.in1 i1 fp1 n1 P1 St1) (D2 : Draws prog w A.in1.in1.in1 i2 fp2 n2 P2 St2) (D3 : Draws prog w A.in1.in1.in1 i3 fp3 n3 P3 St3) (hn : n = min (min n1 n2) n3) (hsz : n ≤ sizeLine)
    (hz : IsZip s.heap z TI TO .none) (hTO : ∃ u v w, IsTupOf3 s.heap TO u v w) (hTI : IsTupOf3 s.heap TI (.ref i1) (.ref i2) (.ref i3)) (st1 : St1 0 s.heap) (st2 : St2 0 s.heap) (st3 : St3 0 s.heap) (hf1 : ∀ b ∈ fp1, b < s.heap.objs.size) (hf2 : ∀ b ∈ fp2, b < s.heap.objs.size) (hf3 : ∀ b ∈ fp3, b < s.heap.objs.size) (hN : N ≤ s.heap.objs.size)
    (hQ : ∀ h' tk acc' c' Ts', (∀ b o, b ∉ [z, TO, i1, i2, i3] → s.heap.get? b = some o → h'.get? b = some o) → h'.get? s.heap.objs.size = some { cls := .type "list", dict := none, data := .seq acc' c', slots := #[] } → acc'.toList = Ts'.map Value.ref → Ts'.length = n → Tups P1 P2 P3 [s.heap.objs.size, z, TO, i1, i2, i3] N h' Ts' → Q (.ref s.heap.objs.size) { s with heap := h', toks := tk }) :
    wpAny (model prog w) A (call (.type "list") [.ref z]) Q E s := by
  refine callType_codes (Q₁ := fun obj s₁ => obj = .ref s.heap.objs.size ∧ s₁ = { s with heap := s.heap.push { cls := .type "list", data := .seq #[] } }) PySem.F.called_list (PySem.F.typeCall_list_1 _) PySem.F.entry_list_init
    (code_list_new _ ⟨rfl, rfl⟩) fun obj s₁ h₁ => ?_
  obtain ⟨rfl, rfl⟩ := h₁
  have hS : (s.heap.push { cls := .type "list", data := .seq #[] }).get? s.heap.objs.size = some { cls := .type "list", data := .seq #[] } := Heap.get?_push_size _ rfl
  refine ⟨⟨_, hS, rfl⟩, PySem.F.args_list_init_2 _ _, ?_⟩
  have Lf1 : s.heap.objs.size ∉ fp1 := fun q => absurd (hf1 _ q) (Nat.lt_irrefl _)
  have Lf2 : s.heap.objs.size ∉ fp2 := fun q => absurd (hf2 _ q) (Nat.lt_irrefl _)
  have Lf3 : s.heap.objs.size ∉ fp3 := fun q => absurd (hf3 _ q) (Nat.lt_irrefl _)
  have Lz : s.heap.objs.size ≠ z := Nat.ne_of_gt (Heap.lt_size hz)
  have LI : s.heap.objs.size ≠ TI := Nat.ne_of_gt (Heap.lt_size hTI)
  have LO : s.heap.objs.size ≠ TO := by obtain ⟨_, _, _, q⟩ := hTO; exact Nat.ne_of_gt (Heap.lt_size q)
  show wpAny _ A.in1.in1 (do let old ← Builtin.List.listItems (.ref s.heap.objs.size); Builtin.List.listUpdate (.ref s.heap.objs.size) (fun _ => #[]); letGo old.toList.reverse; Builtin.List.listExtendWith (.ref s.heap.objs.size) (.ref z) .none) _ _ _
  refine wpAny_bind ?_
  unfold Builtin.List.listItems
  refine wpAny_bind (wpAny_seqItems hS rfl (wpAny_pure ?_))
  show wpAny _ _ (updateSeq s.heap.objs.size (fun _ => #[]) >>= fun _ => letGo (#[] : Array Value).toList.reverse >>= fun _ => Builtin.List.listExtendWith (.ref s.heap.objs.size) (.ref z) .none) _ _ _
  refine wpAny_bind (wpAny_updateSeq hS rfl ?_)
  have hS₂ := Heap.get?_update_self (Obj.mapSeq (fun _ => (#[] : Array Value))) hS rfl
  have up : ∀ {h : Heap} (f : Obj → Obj), (∀ b o, s.heap.get? b = some o → h.get? b = some o) → ∀ b o, s.heap.get? b = some o → (h.update s.heap.objs.size f).get? b = some o := fun {h} f q b o e =>
    (Heap.get?_update_other _ _ (Ne.symm (Nat.ne_of_lt (Heap.lt_size e)))).trans (q b o e)
  have k1 : ∀ b o, s.heap.get? b = some o → (s.heap.push { cls := .type "list", data := .seq #[] }).get? b = some o := fun b o e => Heap.get?_push_of_some _ e
  have k2 := up (Obj.mapSeq (fun _ => (#[] : Array Value))) k1
  refine wpAny_bind (wpAny_letGo ?_)
  unfold Builtin.List.listExtendWith
  have hTy : ∀ {h : Heap} {tk : Nat}, (∀ b o, s.heap.get? b = some o → h.get? b = some o) → ({ s with heap := h, toks := tk } : Shared).TypeIs (.ref z) "zip" := fun {h tk} q => ⟨_, q _ _ hz, rfl⟩
  refine wpAny_bind (wpAny_typeOf (T := "zip") (hTy k2) ?_)
  have h1 : Builtin.List.listSameRef (.ref s.heap.objs.size) (.ref z) = false := by simp [Builtin.List.listSameRef, Lz]
  have h2 : (Value.type "zip" == Value.type "list") = false := by decide
  have h3 : (Value.type "zip" == Value.type "tuple") = false := by decide
  simp only [h1, h2, h3, Bool.or_false, Bool.false_eq_true, if_false]
  refine wpAny_bind (wpAny_pyIter_zip (k2 _ _ hz) ?_)
  refine wpAny_bind (wpAny_holding ?_)
  unfold Builtin.List.listLengthHint
  refine wpAny_bind (wpAny_specialOf (hTy k2) zip_nolen ?_)
  show wpAny _ A.in1.in1 (specialOf (Value.ref z) (Str.ofString "__length_hint__") >>= _) _ _ _
  refine wpAny_bind (wpAny_specialOf (hTy k2) zip_nohint ?_)
  refine wpAny_pure ?_
  show wpAny _ A.in1.in1 (rule "list.extend.makes-room" >>= fun _ => Builtin.List.listTouch (.ref s.heap.objs.size) >>= fun _ =>
    again (.builtin "list.extend.loop" ⟨[.ref s.heap.objs.size, .ref z, .none], []⟩)) _ _ _
  refine wpAny_bind (wpAny_rule ?_)
  refine wpAny_bind ?_
  show wpAny _ A.in1.in1 (updateSeq s.heap.objs.size (·.push .none) >>= fun _ => updateSeq s.heap.objs.size (·.pop)) _ _ _
  refine wpAny_bind (wpAny_updateSeq hS₂ rfl ?_)
  have hS3 := Heap.get?_update_self (Obj.mapSeq (·.push Value.none)) hS₂ rfl
  refine wpAny_updateSeq (hz := by seq_fits) hS3 rfl ?_
  have hS4 := Heap.get?_update_self (Obj.mapSeq (·.pop)) hS3 rfl
  have k4 := up (Obj.mapSeq (·.pop)) (up (Obj.mapSeq (·.push Value.none)) k2)
  refine wpAny_pure ⟨plainId_quiet F.plain_extend_loop _, ?_⟩
  obtain ⟨u, v, w', hTO⟩ := hTO
  refine ext_zip3 (A := A.in1) S D1 D2 D3 hn hsz s.heap.objs.size Lf1 Lf2 Lf3 Lz LI LO .none N n 0 _ #[] _ [] (by omega) (Nat.zero_le _) ⟨.inl ⟨k4 _ _ hz, u, v, w', k4 _ _ hTO⟩, ⟨_, k4 _ _ hTO⟩, k4 _ _ hTI, D1.frame _ _ _ st1 fun b _ o e => k4 b o e, D2.frame _ _ _ st2 fun b _ o e => k4 b o e, D3.frame _ _ _ st3 fun b _ o e => k4 b o e⟩ hS4 rfl rfl ?_ ⟨List.nodup_nil, fun j T e => by simp at e⟩ ?_
  · exact Nat.le_trans hN (Nat.le_of_lt (Heap.lt_size hS4))
  · intro h' tk acc' c' Ts' kk e1 e2 e3 e4
    refine ⟨rfl, hQ h' tk acc' c' Ts' (fun b o hb e => kk b o (fun q => ?_) (k4 b o e)) e1 e2 e3 e4⟩
    rcases List.mem_cons.mp q with q | q
    · exact absurd (Heap.lt_size e) (by rw [q]; exact Nat.lt_irrefl _)
    · exact hb q
end
/-! ### new tuples, tracked -/
def layT (H : Hp) : List (Addr × List V) → Hp
  | [] => H
  | (a, xs) :: l => upd (layT H l) a (.tup xs)
theorem layT_none {H : Hp} : ∀ {l : List (Addr × List V)} {b : Addr}, H b = none → b ∉ l.map (·.1) → layT H l b = none
  | [], _, h, _ => h
  | (a, xs) :: l, b, h, n => by
    have n1 : b ≠ a := fun e => n (by simp [e])
    show upd (layT H l) a _ b = none
    rw [upd_ne n1]
    exact layT_none h fun q => n (List.mem_cons_of_mem _ q)
theorem take_many {X : Cx} {pins : List (Addr × Obj)} {σ : L2.St} {H : Hp} {s : Shared} (I : Inv X pins σ H s) : ∀ (l : List (Addr × List V)), (l.map (·.1)).Nodup → (∀ p ∈ l, FpOk X pins H p.1 ∧ p.2.length ≤ sizeLine ∧ ∃ us, Vals p.2 us ∧ IsTup s.heap p.1 us.toArray) → Inv X pins σ (layT H l) s
  | [], _, _ => I
  | (a, xs) :: l, nd, h => by
    rw [List.map_cons, List.nodup_cons] at nd
    have J := take_many I l nd.2 fun p hp => h p (List.mem_cons_of_mem _ hp)
    obtain ⟨f, hl, us, r, t⟩ := h (a, xs) List.mem_cons_self
    have f' : FpOk X pins (layT H l) a := ⟨layT_none f.1 nd.1, f.2⟩
    exact Inv.take (h' := s.heap) (t' := s.toks) (o := .tup xs) J (fun b ob _ e => e) f' ⟨hl, us, r, t⟩
def zip3V (xs ys zs : List V) : List (List V) := (xs.zip (ys.zip zs)).map fun p => [p.1, p.2.1, p.2.2]
def tLZ (K : PySem.W.Frag) (ta : TA) : TE := fun σ H Q => ta σ H fun vs H1 => sq3 K H1 vs fun _ _ _ _ _ _ xs ys zs => (zip3V xs ys zs).length ≤ sizeLine ∧ ∀ (L : Addr) (Ts : List Addr), H1 L = none → Ts.Nodup → L ∉ Ts → (∀ T ∈ Ts, H1 T = none) → Ts.length = (zip3V xs ys zs).length →
  Q (.ref L) (upd (layT H1 (Ts.zip (zip3V xs ys zs))) L (.lst (Ts.map V.ref)))
theorem vals_refs : ∀ Ts : List Addr, Vals (Ts.map V.ref) (Ts.map Value.ref)
  | [] => .nil
  | T :: Ts => .cons rfl (vals_refs Ts)
theorem pe_listzip {X : Cx} {e e2 e3 : Expr} {ta : TA} {p pos p2 pos2 : Pos} (hgl : Gl X "list") (hml : X.mg "list" = none) (hg : Gl X "zip") (hm : X.mg "zip" = none) (hc : X.calm = true) (ha : PA X [e, e2, e3] ta) (hs : starEach [e, e2, e3] X.env = (false, eval e X.env) :: starEach [e2, e3] X.env) (hs2 : (backTo pos2 (starEach [e2, e3] X.env)).any (·.1) = false) :
    PE X (.Call (.Name "list" p) [.Call (.Name "zip" p2) [e, e2, e3] [] pos2] [] pos) (tLZ X.K ta) := by
  refine ⟨fun pins s σ H Q I h => ?_⟩
  refine Call_ (ld_blt I hgl hml PyProof.Rows.boot_list (PyProof.Rows.callWith_type1 ?_ rfl rfl))
  show wpAny _ _ (spliced ((false, eval (.Call (.Name "zip" p2) [e, e2, e3] [] pos2) X.env) :: backTo pos (starEach [] X.env))) _ _ s
  refine Calls.spliced_cons ?_
  refine Call_ (ld_blt I hg hm PyProof.Rows.boot_zip (PyProof.Rows.callWith_type1 (thn (ha.run pos2 pins s σ H _ I h) fun us s1 ⟨vs, H1, I1, r1, q1⟩ => ?_) hs hs2))
  obtain ⟨b1, b2, b3, a1, a2, a3, xs, ys, zs, ex, hx, hy, hz, hlen, q⟩ := q1
  subst ex
  cases r1 with
  | cons r rr =>
  cases rr with
  | cons r' rr =>
  cases rr with
  | cons r'' rr =>
    cases rr
    cases r
    cases r'
    cases r''
    obtain ⟨its1, rv1, p1, l1⟩ := sq_items I1 hx
    obtain ⟨its2, rv2, p2', l2⟩ := sq_items I1 hy
    obtain ⟨its3, rv3, p3, l3⟩ := sq_items I1 hz
    refine zip_begins3 (begins_B b1 a1 its1.toArray) (begins_B b2 a2 its2.toArray) (begins_B b3 a3 its3.toArray) p1 p2' p3 fun h' hz' hTI hTO e1 e2 e3 hsz hk => Calls.spliced_nil ?_
    have S := zip_sep3 (N := s1.heap.objs.size) (fp1 := [a1]) (fp2 := [a2]) (fp3 := [a3]) (fun b hb => by rw [List.mem_singleton.mp hb]; exact l1) (fun b hb => by rw [List.mem_singleton.mp hb]; exact l2) (fun b hb => by rw [List.mem_singleton.mp hb]; exact l3)
    have n1 : a1 ≠ s1.heap.objs.size := Nat.ne_of_lt l1
    have n2 : a2 ≠ s1.heap.objs.size + 1 := Nat.ne_of_lt (Nat.lt_succ_of_lt l2)
    have n3 : a3 ≠ s1.heap.objs.size + 2 := Nat.ne_of_lt (Nat.lt_succ_of_lt (Nat.lt_succ_of_lt l3))
    have hd := I.ok.hd hc
    have ln : (zip3V xs ys zs).length = min (min its1.toArray.size its2.toArray.size) its3.toArray.size := by
      have := rv1.length
      have := rv2.length
      have := rv3.length
      simp [zip3V]
      omega
    have keepSeq : ∀ {b : Bool} {a : Addr} {its : Array Value}, (if b = true then s1.heap.IsList a its else s1.heap.IsTuple a its) → (if b = true then h'.IsList a its else h'.IsTuple a its) := fun {b a its} x => by
      cases b with
      | true => exact Heap.IsList.at x fun o e => hk _ _ e
      | false => exact Heap.IsTuple.at x fun o e => hk _ _ e
    refine call_list_zip3 (s := { s1 with heap := h' }) (N := s1.heap.objs.size) S (draws_B (prog := X.prog) (w := X.w) (A := X.A.in1.in1.in1) b1 hd s1.heap.objs.size a1 n1 its1.toArray) (draws_B (prog := X.prog) (w := X.w) (A := X.A.in1.in1.in1) b2 hd (s1.heap.objs.size + 1) a2 n2 its2.toArray) (draws_B (prog := X.prog) (w := X.w) (A := X.A.in1.in1.in1) b3 hd (s1.heap.objs.size + 2) a3 n3 its3.toArray)
      ln hlen hz' ⟨_, _, _, hTO⟩ hTI ⟨iter_new e1, keepSeq p1⟩ ⟨iter_new e2, keepSeq p2'⟩ ⟨iter_new e3, keepSeq p3⟩ ?f1 ?f2 ?f3 ?fN fun h2 tk acc c Ts kk hL hacc hTl hT => ?_
    case f1 => 
      intro b hb
      show b < h'.objs.size
      rw [hsz]
      have e' : b = s1.heap.objs.size ∨ b = a1 := by simpa using hb
      rcases e' with z | z
      · rw [z]; exact Nat.lt_add_of_pos_right (by decide)
      · rw [z]; exact Nat.lt_add_right _ l1
    case f2 =>
      intro b hb
      show b < h'.objs.size
      rw [hsz]
      have e' : b = s1.heap.objs.size + 1 ∨ b = a2 := by simpa using hb
      rcases e' with z | z
      · rw [z]; exact Nat.add_lt_add_left (by decide) _
      · rw [z]; exact Nat.lt_add_right _ l2
    case f3 =>
      intro b hb
      show b < h'.objs.size
      rw [hsz]
      have e' : b = s1.heap.objs.size + 2 ∨ b = a3 := by simpa using hb
      rcases e' with z | z
      · rw [z]; exact Nat.add_lt_add_left (by decide) _
      · rw [z]; exact Nat.lt_add_right _ l3
    case fN =>
      show s1.heap.objs.size ≤ h'.objs.size
      rw [hsz]
      exact Nat.le_add_right _ _
    have cellNew : ∀ b ∈ [s1.heap.objs.size + 5, s1.heap.objs.size + 4, s1.heap.objs.size, s1.heap.objs.size + 1, s1.heap.objs.size + 2], s1.heap.objs.size ≤ b := fun b hb => by
      have e' : b = s1.heap.objs.size + 5 ∨ b = s1.heap.objs.size + 4 ∨ b = s1.heap.objs.size ∨ b = s1.heap.objs.size + 1 ∨ b = s1.heap.objs.size + 2 := by simpa using hb
      rcases e' with e | e | e | e | e <;> rw [e] <;> first | exact Nat.le_refl _ | exact Nat.le_add_right _ _
    have kAll : ∀ b o, s1.heap.get? b = some o → h2.get? b = some o := fun b o e => kk b o (fun q => absurd (Nat.lt_of_lt_of_le (Heap.lt_size e) (cellNew b q)) (Nat.lt_irrefl _)) (hk b o e)
    have I3 : Inv X pins σ H1 { s1 with heap := h2, toks := tk } := I1.kept (t' := tk) kAll
    have hLn : s1.heap.objs.size ≤ h'.objs.size := by rw [hsz]; exact Nat.le_add_right _ _
    have nL : h'.objs.size ∉ Ts := fun hm => by
      obtain ⟨j, hj, e⟩ := List.mem_iff_getElem.mp hm
      obtain ⟨_, nc, _⟩ := hT.2 j _ (by rw [List.getElem?_eq_getElem hj, e])
      exact nc (by simp)
    have hTn : ∀ T ∈ Ts, s1.heap.objs.size ≤ T := fun T hm => by
      obtain ⟨j, hj, e⟩ := List.mem_iff_getElem.mp hm
      exact (hT.2 j _ (by rw [List.getElem?_eq_getElem hj, e])).1
    have hTl : Ts.length = (zip3V xs ys zs).length := hTl
    have emap : (Ts.zip (zip3V xs ys zs)).map (·.1) = Ts := by rw [List.map_fst_zip]; omega
    have I4 : Inv X pins σ (layT H1 (Ts.zip (zip3V xs ys zs))) { s1 with heap := h2, toks := tk } := by
      refine take_many I3 _ (by rw [emap]; exact hT.1) fun pr hp => ?_
      obtain ⟨j, hj, e⟩ := List.mem_iff_getElem.mp hp
      have hjT : j < Ts.length := by rw [List.length_zip] at hj; omega
      have hjz : j < (zip3V xs ys zs).length := by omega
      rw [List.getElem_zip] at e
      have q1 : Ts[j] = pr.1 := by rw [← e]
      have q2 : (zip3V xs ys zs)[j] = pr.2 := by rw [← e]
      obtain ⟨hN, _, x1, x2, x3, k1, k2, k3, ht⟩ := hT.2 j pr.1 (by rw [List.getElem?_eq_getElem hjT, q1])
      refine ⟨I1.fpOk hN (I1.hok.fresh hN), ?_, [x1, x2, x3], ?_, ⟨_, ht, rfl, _, rfl⟩⟩
      · rw [← q2]
        simp [zip3V]
        rw [sizeLine_eq]
        decide
      · rw [← q2]
        have hj1 : j < xs.length ∧ j < ys.length ∧ j < zs.length := by
          have : (zip3V xs ys zs).length = min xs.length (min ys.length zs.length) := by simp [zip3V]
          omega
        have vg : ∀ {vs : List V} {us : List Value} {u : Value} (h : j < vs.length), Vals vs us → us.toArray[j]? = some u → RelV vs[j] u := fun {vs us u} h r e => by
          obtain ⟨u', e', r'⟩ := r.get (List.getElem?_eq_getElem h)
          have e : us[j]? = some u := by simpa using e
          rw [e'] at e
          cases e
          exact r'
        simp only [zip3V, List.getElem_map, List.getElem_zip]
        exact .cons (vg hj1.1 rv1 k1) (.cons (vg hj1.2.1 rv2 k2) (.cons (vg hj1.2.2 rv3 k3) .nil))
    have fL : FpOk X pins (layT H1 (Ts.zip (zip3V xs ys zs))) h'.objs.size := by
      have := I1.fpOk (H' := H1) hLn (I1.hok.fresh hLn)
      exact ⟨layT_none this.1 (by rw [emap]; exact nL), this.2⟩
    have hL' : h2.get? h'.objs.size = some { cls := .type "list", data := .seq (Ts.map Value.ref).toArray c } := by
      have : acc = (Ts.map Value.ref).toArray := by rw [← hacc]
      rw [← this]; exact hL
    have I5 := Inv.take (s := { s1 with heap := h2, toks := tk }) (h' := h2) (t' := tk) (o := .lst (Ts.map V.ref)) I4 (fun b ob _ e => e) fL ⟨by rw [List.length_map, hTl]; exact hlen, Ts.map Value.ref, c, vals_refs Ts, hL'⟩
    exact ⟨.ref h'.objs.size, _, I5, rfl, q h'.objs.size Ts (I1.hok.fresh hLn) hT.1 nL (fun T hm => I1.hok.fresh (hTn T hm)) hTl⟩
/-! ### readings -/
section
variable {G : GC}
def zip3 : List D → Option (List D)
  | [a, b, c] => (items0 a).bind fun x => (items0 b).bind fun y => (items0 c).map fun z => (x.zip (y.zip z)).map fun p => .tup [p.1, p.2.1, p.2.2]
  | _ => none
theorem zip3_some {ds l : List D} (e : zip3 ds = some l) : ∃ a b c x y z, ds = [a, b, c] ∧ items0 a = some x ∧ items0 b = some y ∧ items0 c = some z ∧ l = (x.zip (y.zip z)).map fun p => .tup [p.1, p.2.1, p.2.2] := by
  match ds, e with
  | [a, b, c], e =>
    obtain ⟨x, e1, e⟩ := Option.bind_eq_some_iff.mp e
    obtain ⟨y, e2, e⟩ := Option.bind_eq_some_iff.mp e
    obtain ⟨z, e3, e⟩ := Option.map_eq_some_iff.mp e
    exact ⟨a, b, c, x, y, z, rfl, e1, e2, e3, e.symm⟩
theorem rpa_3 {oa : List (List Addr)} {H : Hp} {d e f : KF.D} {vs : List V} (h : RpA G oa H [d, e, f] vs) : ∃ v w x, vs = [v, w, x] ∧ Rp G oa H d v ∧ Rp G oa H e w ∧ Rp G oa H f x := by
  obtain ⟨v, r, rfl, h1, h2⟩ := rpa_cons.mp h
  obtain ⟨w, x, rfl, h3, h4⟩ := rpa_two h2
  exact ⟨v, w, x, rfl, h1, h3, h4⟩
theorem yl_zip3 {oa : List (List Addr)} {Hf : Hp} {la lb lc : List D} {b1 b2 b3 : Bool} {a1 a2 a3 : Addr} {xs ys zs : List V} (h1 : SqB b1 G.K Hf a1 xs) (g1 : RpA G oa Hf la xs) (h2 : SqB b2 G.K Hf a2 ys) (g2 : RpA G oa Hf lb ys) (h3 : SqB b3 G.K Hf a3 zs) (g3 : RpA G oa Hf lc zs) :
    Yl G oa Hf (ItZ b1 b2 b3 G.K a1 a2 a3) ((la.zip (lb.zip lc)).map fun p => .tup [p.1, p.2.1, p.2.2]) := by
  intro i Hf1 H1 oa1 e1 e2 o1
  have s1 : SqB b1 G.K H1 a1 xs := (h1.ex e1).ex e2
  have s2 : SqB b2 G.K H1 a2 ys := (h2.ex e1).ex e2
  have s3 : SqB b3 G.K H1 a3 zs := (h3.ex e1).ex e2
  have r1 := g1.mono e1 o1
  have r2 := g2.mono e1 o1
  have r3 := g3.mono e1 o1
  have l1 := r1.length
  have l2 := r2.length
  have l3 := r3.length
  have hl : ((la.zip (lb.zip lc)).map fun p => D.tup [p.1, p.2.1, p.2.2]).length = min la.length (min lb.length lc.length) := by simp
  rw [hl]
  refine ⟨fun hi => ?_, fun hi => ⟨xs, ys, zs, s1, s2, s3, by omega⟩⟩
  have i1 : i < la.length := by omega
  have i2 : i < lb.length := by omega
  have i3 : i < lc.length := by omega
  obtain ⟨v1, e1', q1⟩ := r1.get (List.getElem?_eq_getElem i1)
  obtain ⟨v2, e2', q2⟩ := r2.get (List.getElem?_eq_getElem i2)
  obtain ⟨v3, e3', q3⟩ := r3.get (List.getElem?_eq_getElem i3)
  refine ⟨⟨xs, ys, zs, v1, v2, v3, s1, s2, s3, e1', e2', e3'⟩, fun x H2 hy => ?_⟩
  obtain ⟨T, x1, x2, x3, rfl, nT, rfl, k1, k2, k3⟩ := hy
  have z1 := k1 xs s1
  have z2 := k2 ys s2
  have z3 := k3 zs s3
  rw [e1'] at z1
  rw [e2'] at z2
  rw [e3'] at z3
  cases z1
  cases z2
  cases z3
  have pu := Pure.new (o := .tup [v1, v2, v3]) e2 nT
  refine ⟨_, .tup [la[i], lb[i], lc[i]], pu, ?_, rp_tup.mpr ⟨T, _, rfl, .of upd_same, rpa_cons.mpr ⟨v1, [v2, v3], rfl, q1.mono pu.exf .rfl', rpa_cons.mpr ⟨v2, [v3], rfl, q2.mono pu.exf .rfl', .one (q3.mono pu.exf .rfl')⟩⟩⟩⟩
  rw [List.getElem?_map, List.getElem?_eq_getElem (by simp; omega)]
  simp
theorem ev_zip3 {E : XK} {fa : Fa} {σ : L2.St} {H : Hp} {R : It → Hp → Prop} (h : Ev G E (RI G) (fRng zip3 fa) σ H R) : iZip3 G.K (Ev G E (RA G) fa) σ H R := by
  obtain ⟨Hf, oa, ρ, τ, rel, a⟩ := h
  refine ⟨Hf, oa, ρ, τ, rel, a.bnd fun ds τ1 x H1 Hf1 oa1 _ p1 g1 r1 a1 => ?_⟩
  obtain ⟨l, e, a2⟩ := a1.opt
  obtain ⟨d1, d2, d3, x', y', z', rfl, e1, e2, e3, rfl⟩ := zip3_some e
  obtain ⟨v1, v2, v3, rfl, q1, q2, q3⟩ := rpa_3 r1
  obtain ⟨b1, a1, xs, rfl, h1, k1⟩ := rp_items e1 q1
  obtain ⟨b2, a2', ys, rfl, h2, k2⟩ := rp_items e2 q2
  obtain ⟨b3, a3, zs, rfl, h3, k3⟩ := rp_items e3 q3
  exact ⟨b1, b2, b3, a1, a2', a3, xs, ys, zs, rfl, h1.ex g1.ex, h2.ex g1.ex, h3.ex g1.ex, a2.ret g1 (yl_zip3 h1 k1 h2 k2 h3 k3)⟩
/-! list(zip(a, b, c)) -/
def gLZ (ds : List D) : Option D := (zip3 ds).bind fun l => if l.length ≤ SZ then some (.lst l) else none
theorem rpa_layT {oa : List (List Addr)} : ∀ {ls : List (List D)} {vss : List (List V)} {Ts : List Addr} {Hf H : Hp}, Ex Hf H → Ts.length = vss.length → Ts.Nodup → (∀ T ∈ Ts, H T = none) → (ls.length = vss.length ∧ ∀ (i : Nat) l vs, ls[i]? = some l → vss[i]? = some vs → RpA G oa Hf l vs) →
    ∃ Hf', Pure Hf H Hf' (layT H (Ts.zip vss)) ∧ RpA G oa Hf' (ls.map D.tup) (Ts.map V.ref)
  | [], [], [], Hf, H, ex, _, _, _, _ => ⟨Hf, .rfl' ex, rpa_nil.mpr rfl⟩
  | l :: ls, vs :: vss, T :: Ts, Hf, H, ex, hl, nd, hn, hr => by
    rw [List.nodup_cons] at nd
    obtain ⟨Hf', pu, r⟩ := rpa_layT (ls := ls) (vss := vss) (Ts := Ts) ex (by simpa using hl) nd.2 (fun t ht => hn t (List.mem_cons_of_mem _ ht)) ⟨by simpa using hr.1, fun i l vs e1 e2 => hr.2 (i + 1) l vs (by simpa using e1) (by simpa using e2)⟩
    have nT : layT H (Ts.zip vss) T = none := layT_none (hn T List.mem_cons_self) (by rw [List.map_fst_zip (by simp at hl; omega)]; exact nd.1)
    have p2 := Pure.new (o := .tup vs) pu.exx nT
    refine ⟨_, pu.tr p2, ?_⟩
    have h0 : RpA G oa Hf l vs := hr.2 0 l vs rfl rfl
    exact rpa_cons.mpr ⟨.ref T, _, rfl, rp_tup.mpr ⟨T, vs, rfl, .of upd_same, h0.mono (pu.exf.tr p2.exf) .rfl'⟩, r.mono p2.exf .rfl'⟩
  | [], [], _ :: _, _, _, _, hl, _, _, _ => by simp at hl
  | _, _ :: _, [], _, _, _, hl, _, _, _ => by simp at hl
  | [], _ :: _, _, _, _, _, _, _, _, hr => by simp at hr
  | _ :: _, [], _, _, _, _, _, _, _, hr => by simp at hr
theorem ev_LZ {E : XK} {fa : Fa} {σ : L2.St} {H : Hp} {Q : VK} (h : Ev G E (RE G) (fN gLZ fa) σ H Q) : tLZ G.K (Ev G E (RA G) fa) σ H Q := by
  obtain ⟨Hf, oa, ρ, τ, rel, a⟩ := h
  refine ⟨Hf, oa, ρ, τ, rel, a.bnd fun ds τ1 x H1 Hf1 oa1 _ p1 g1 r1 a1 => ?_⟩
  obtain ⟨d, e, a2⟩ := a1.opt
  obtain ⟨l, e, e'⟩ := Option.bind_eq_some_iff.mp e
  obtain ⟨d1, d2, d3, x', y', z', rfl, e1, e2, e3, rfl⟩ := zip3_some e
  obtain ⟨v1, v2, v3, rfl, q1, q2, q3⟩ := rpa_3 r1
  obtain ⟨b1, a1, xs, rfl, h1, k1⟩ := rp_items e1 q1
  obtain ⟨b2, a2', ys, rfl, h2, k2⟩ := rp_items e2 q2
  obtain ⟨b3, a3, zs, rfl, h3, k3⟩ := rp_items e3 q3
  split at e'
  · rename_i hz
    cases e'
    have l1 := k1.length
    have l2 := k2.length
    have l3 := k3.length
    have hl : (zip3V xs ys zs).length = min x'.length (min y'.length z'.length) := by simp [zip3V]; omega
    refine ⟨b1, b2, b3, a1, a2', a3, xs, ys, zs, rfl, h1.ex g1.ex, h2.ex g1.ex, h3.ex g1.ex, ?_, fun L Ts nL nd nLT nT hTl => ?_⟩
    · simp at hz
      exact sz_le (by rw [hl]; show _ ≤ SZ; show _ ≤ 1000000; omega)
    · have hr : ∀ (i : Nat) (l : List D) (vs : List V), ((x'.zip (y'.zip z')).map fun p => [p.1, p.2.1, p.2.2])[i]? = some l → (zip3V xs ys zs)[i]? = some vs → RpA G oa1 Hf1 l vs := by
        intro i l vs u1 u2
        rw [List.getElem?_map] at u1
        obtain ⟨p, u1', rfl⟩ := Option.map_eq_some_iff.mp u1
        unfold zip3V at u2
        rw [List.getElem?_map] at u2
        obtain ⟨q, u2', rfl⟩ := Option.map_eq_some_iff.mp u2
        obtain ⟨t1, t2⟩ := List.getElem?_zip_eq_some.mp u1'
        obtain ⟨t3, t4⟩ := List.getElem?_zip_eq_some.mp t2
        obtain ⟨w1, w2⟩ := List.getElem?_zip_eq_some.mp u2'
        obtain ⟨w3, w4⟩ := List.getElem?_zip_eq_some.mp w2
        obtain ⟨g1', f1, f2⟩ := k1.get t1
        obtain ⟨g2', f3, f4⟩ := k2.get t3
        obtain ⟨g3', f5, f6⟩ := k3.get t4
        rw [w1] at f1
        rw [w3] at f3
        rw [w4] at f5
        cases f1
        cases f3
        cases f5
        exact rpa_cons.mpr ⟨_, _, rfl, f2, rpa_cons.mpr ⟨_, _, rfl, f4, .one f6⟩⟩
      obtain ⟨Hf', pu, r⟩ := rpa_layT (G := G) (oa := oa1) (ls := (x'.zip (y'.zip z')).map fun p => [p.1, p.2.1, p.2.2]) (vss := zip3V xs ys zs) (Ts := Ts) g1.ex hTl nd nT ⟨by simp [hl], hr⟩
      have nL' : layT H1 (Ts.zip (zip3V xs ys zs)) L = none := layT_none nL (by rw [List.map_fst_zip (by omega)]; exact nLT)
      have p2 := Pure.new (o := .lst (Ts.map V.ref)) pu.exx nL'
      refine At.pure a2 g1 (pu.tr p2) (rp_lst.mpr ⟨L, _, rfl, .inl upd_same, ?_⟩)
      have := r.mono p2.exf (OaX.rfl' (oa := oa1))
      rw [List.map_map] at this
      exact this
  · cases e'
end
section
variable {P : Par} {c : Ctx}
def mkZip3 {a b d : Expr} {elts : List Expr} {kk : Nat} {tpos : Pos} (x : Str) (p pos : Pos) (A : CA P c [a, b, d]) : Option (CI P c (.Tuple elts kk tpos) (.Call (.Name x p) [a, b, d] [] pos)) :=
  if h : x = "zip" ∧ glB c.sc x = true ∧ starOk [a, b, d] = true then some ⟨fRng zip3 A.f, fun X E o => by
    obtain ⟨h1, h2, h3⟩ := h
    subst h1
    have st := starOk_cons h3
    exact PI.mono (pi_zip3 (o.gl h2) (o.mg (by decide)) (A.ok X E o) (star_no st.1 _ _) (backTo_any (star_all st.2))) fun _ _ _ q => ev_zip3 (G := gc P X) q⟩ else none
def mkLZ {a b d : Expr} (x y : Str) (p pos p2 pos2 : Pos) (A : CA P c [a, b, d]) : Option (CE P c (.Call (.Name x p) [.Call (.Name y p2) [a, b, d] [] pos2] [] pos)) :=
  if h : x = "list" ∧ y = "zip" ∧ glB c.sc x = true ∧ glB c.sc y = true ∧ starOk [a, b, d] = true then some ⟨fN gLZ A.f, fun X E o => by
    obtain ⟨h1, h2, h3, h4, h5⟩ := h
    subst h1 h2
    have st := starOk_cons h5
    exact PE.mono (pe_listzip (o.gl h3) (o.mg (by decide)) (o.gl h4) (o.mg (by decide)) o.calm (A.ok X E o) (star_no st.1 _ _) (backTo_any (star_all st.2))) fun _ _ _ q => ev_LZ (G := gc P X) q⟩ else none
end
end KF
set_option maxHeartbeats 4000000
/-! KFJ: dicts with keys ints and texts; caught exceptions. -/
namespace KF
open PySem PySem.Spec PyProof.Rows L2
/-! ### keys -/
def keyOf : D → Option Key
  | .int i => some (.inl i)
  | .str x => some (.inr x)
  | _ => none
theorem keyOf_keyD (k : Key) : keyOf (keyD k) = some k := by cases k <;> rfl
theorem keyD_inj {a b : Key} (h : keyD a = keyD b) : a = b := by
  have := congrArg keyOf h
  rw [keyOf_keyD, keyOf_keyD] at this
  exact Option.some.inj this
/-- the value at a key -/
def lookK (k : Key) : List D → List D → Option D
  | d :: ds, v :: vs => if keyOf d = some k then some v else lookK k ds vs
  | _, _ => none
/-- put at a key: as before, or at the end -/
def putD (k : Key) (v : D) : List D → List D → List D × List D
  | d :: ds, u :: us => if keyOf d = some k then (d :: ds, v :: us) else let r := putD k v ds us; (d :: r.1, u :: r.2)
  | _, _ => ([keyD k], [v])
section
variable {G : GC} {oa : List (List Addr)} {Hf H : Hp}
theorem look_rp {k : Key} : ∀ {es : List (Key × V)} {vs : List D}, RpA G oa Hf vs (es.map (·.2)) → (∀ d, lookK k (es.map fun e => keyD e.1) vs = some d → ∃ v, valV es k = some v ∧ Rp G oa Hf d v) ∧ (lookK k (es.map fun e => keyD e.1) vs = none → valV es k = none)
  | [], vs, r => by
    rw [List.map_nil] at r ⊢
    exact ⟨fun d e => by simp [lookK] at e, fun _ => rfl⟩
  | (k0, v0) :: es, [], r => by rw [rpa_nil] at r; cases r
  | (k0, v0) :: es, d0 :: vs, r => by
    rw [List.map_cons, rpa_cons] at r
    obtain ⟨v, r', e, h1, h2⟩ := r
    cases e
    have ih := look_rp (k := k) h2
    rw [List.map_cons]
    simp only [lookK, keyOf_keyD]
    by_cases c : k0 = k
    · subst c
      rw [if_pos rfl]
      refine ⟨fun d e => ?_, fun e => by cases e⟩
      cases e
      exact ⟨v0, valV_pos rfl, h1⟩
    · rw [if_neg (fun z => c (Option.some.inj z))]
      rw [valV_neg (show ¬ (k0, v0).1 = k from c)]
      exact ih
theorem put_rp {k : Key} {d : D} {v : V} (hd : Rp G oa Hf d v) : ∀ {es : List (Key × V)} {vs : List D}, (es.map (·.1)).Nodup → RpA G oa Hf vs (es.map (·.2)) → (putD k d (es.map fun e => keyD e.1) vs).1 = (putK es k v).map (fun e => keyD e.1) ∧ RpA G oa Hf (putD k d (es.map fun e => keyD e.1) vs).2 ((putK es k v).map (·.2))
  | [], vs, _, r => by
    rw [List.map_nil, putK_new v rfl]
    have : putD k d [] vs = ([keyD k], [d]) := by cases vs <;> rfl
    rw [this]
    exact ⟨rfl, .one hd⟩
  | (k0, v0) :: es, [], _, r => by rw [rpa_nil] at r; cases r
  | (k0, v0) :: es, d0 :: vs, nd, r => by
    rw [List.map_cons, List.nodup_cons] at nd
    rw [List.map_cons, rpa_cons] at r
    obtain ⟨v', r', e, h1, h2⟩ := r
    cases e
    have ih := put_rp (k := k) hd nd.2 h2
    rw [List.map_cons]
    simp only [putD, keyOf_keyD]
    by_cases c : k0 = k
    · subst c
      rw [if_pos rfl]
      have e : putK ((k0, v0) :: es) k0 v = (k0, v) :: es := by
        unfold putK
        rw [if_pos (by simp)]
        rw [List.map_cons, if_pos rfl]
        congr 1
        conv => rhs; rw [← List.map_id es]
        refine List.map_congr_left fun p hp => ?_
        rw [if_neg (fun z => nd.1 (List.mem_map.mpr ⟨p, hp, z⟩))]
        rfl
      rw [e]
      exact ⟨rfl, rpa_cons.mpr ⟨v, _, rfl, hd, h2⟩⟩
    · rw [if_neg (fun z => c (Option.some.inj z))]
      have e : putK ((k0, v0) :: es) k v = (k0, v0) :: putK es k v := by
        unfold putK
        by_cases q : (es.any fun kv => decide (kv.1 = k)) = true
        · rw [if_pos (by rw [List.any_cons, q]; simp), if_pos q, List.map_cons, if_neg c]
        · rw [if_neg (by rw [List.any_cons]; simp only [Bool.or_eq_true, decide_eq_true_eq, not_or]; exact ⟨c, q⟩), if_neg q]
          rfl
      rw [e, List.map_cons, List.map_cons]
      exact ⟨by rw [← ih.1], rpa_cons.mpr ⟨v0, _, rfl, h1, ih.2⟩⟩
theorem bw_dic {ks vs : List D} {v : V} (ex : Ex Hf H) (r : Bw G oa Hf H (.dic ks vs) v) : ∃ a es, v = .ref a ∧ Rd H a (.dK es) ∧ es.map (fun e => keyD e.1) = ks ∧ RpA G oa Hf vs (es.map (·.2)) := by
  rcases r with r | r
  · obtain ⟨a, o, es, rfl, h1, h2, h3⟩ := rp_dic.mp r
    exact ⟨a, es, rfl, .inr ⟨o, ex _ _ h1⟩, h2, h3⟩
  · obtain ⟨a, es, rfl, h1, _, _, h2, h3⟩ := r
    exact ⟨a, es, rfl, .inl h1, h2, h3⟩
/-! ### d[k], d.get(k, x) -/
def gDget (d k : D) : Option D := match d with
  | .dic ks vs => (keyOf k).bind fun q => lookK q ks vs
  | _ => none
theorem key_v {d : D} {v : V} {k : Key} (e : keyOf d = some k) (r : Bw G oa Hf H d v) : v = kV k := by
  cases d with
  | int i => cases e; exact bw_int r
  | str x => cases e; exact bw_str r
  | _ => cases e
theorem ev_dget {E : XK} {fa fb : Fe} {σ : L2.St} {Q : VK} (h : Ev G E (RE G) (f2 gDget fa fb) σ H Q) : tDGet (Ev G E (RB G) fa) (Ev G E (RB G) fb) σ H Q := by
  obtain ⟨Hf, oa, ρ, τ, rel, a⟩ := h
  refine ⟨Hf, oa, ρ, τ, rel, a.bnd fun d1 τ1 x H1 Hf1 oa1 _ p1 g1 r1 a1 => ⟨Hf1, oa1, ρ, τ1, rel.post p1 g1, a1.bnd fun d2 τ2 y H2 Hf2 oa2 _ p2 g2 r2 a2 => ?_⟩⟩
  obtain ⟨d, e, a3⟩ := a2.opt
  cases d1 with
  | dic ks vs =>
    obtain ⟨k, e1, e2⟩ := Option.bind_eq_some_iff.mp e
    obtain ⟨b, es, rfl, h1, h2, h3⟩ := bw_dic g2.ex (r1.post p2)
    subst h2
    obtain ⟨v, h4, h5⟩ := (look_rp h3).1 d e2
    exact ⟨b, v, rfl, .inl ⟨es, k, h1, key_v e1 r2, h4.symm⟩, a3.ret g2 h5⟩
  | _ => cases e
theorem at_opt {E : XK} {α γ δ : Type} {R : List (List Addr) → Hp → Hp → γ → δ → Prop} {o : Option α} {k : α → M γ} {τ : Tau} {Q : δ → Hp → Prop} (a : At G E R (M.bnd (M.opt o) k) Hf oa τ H Q) : ∃ d, o = some d ∧ At G E R (k d) Hf oa τ H Q := by
  cases o with
  | none => exact False.elim a
  | some d => exact ⟨d, rfl, a⟩
def dicOf : D → Option (List D × List D)
  | .dic ks vs => some (ks, vs)
  | _ => none
theorem dicOf_some {d : D} {p : List D × List D} (h : dicOf d = some p) : d = .dic p.1 p.2 := by
  cases d <;> cases h
  rfl
def fDget2 (i : Nat) (fk fx : Fe) : Fe := fun ρ => M.bnd (fBor i ρ) fun d => M.bnd (M.opt (dicOf d)) fun p => M.bnd (fk ρ) fun k => M.bnd (fx ρ) fun x => M.opt ((keyOf k).map fun q => (lookK q p.1 p.2).getD x)
theorem ev_dget2 {E : XK} {i : Nat} {fk fx : Fe} {σ : L2.St} {Q : VK} (h : Ev G E (RE G) (fDget2 i fk fx) σ H Q) : tDGet2 (Ev G E (RB G) (fBor i)) (Ev G E (RB G) fk) (Ev G E (RE G) fx) σ H Q := by
  obtain ⟨Hf, oa, ρ, τ, rel, a⟩ := h
  refine ⟨Hf, oa, ρ, τ, rel, a.bnd fun d1 τ1 x H1 Hf1 oa1 _ p1 g1 r1 a1 => ?_⟩
  obtain ⟨p, ep, b1⟩ := at_opt a1
  have := dicOf_some ep
  subst this
  obtain ⟨b, es, rfl, h1, h2, h3⟩ := bw_dic g1.ex r1
  refine ⟨b, rfl, .inl ⟨es, h1⟩, Hf1, oa1, ρ, τ1, rel.post p1 g1, b1.bnd fun d2 τ2 y H2 Hf2 oa2 _ p2 g2 r2 a2 => ⟨Hf2, oa2, ρ, τ2, (rel.post p1 g1).post p2 g2, a2.bnd fun d3 τ3 z H3 Hf3 oa3 _ p3 g3 r3 a3 => ?_⟩⟩
  obtain ⟨d, e, a4⟩ := a3.opt
  obtain ⟨k, e1, rfl⟩ := Option.map_eq_some_iff.mp e
  obtain ⟨b', es, eb, h1, h2, h3⟩ := bw_dic g3.ex ((r1.post p2).post p3)
  cases eb
  rw [← h2] at a4
  refine ⟨valV es k, .inl ⟨es, k, h1, key_v e1 (r2.post p3), rfl⟩, a4.ret g3 ?_⟩
  cases q : lookK k (es.map fun e => keyD e.1) p.2 with
  | some d' =>
    obtain ⟨v, h4, h5⟩ := (look_rp h3).1 d' q
    rw [h4]
    exact h5
  | none =>
    rw [(look_rp h3).2 q]
    exact r3
/-! ### d[k] = v, d held alone -/
def dicAt (ρ : En) (i : Nat) : Option (List D × List D) := match ρ[i]? with
  | some (.ow (.dic ks vs)) => some (ks, vs)
  | _ => none
theorem dicAt_some {ρ : En} {i : Nat} {p : List D × List D} (h : dicAt ρ i = some p) : ρ[i]? = some (.ow (.dic p.1 p.2)) := by
  unfold dicAt at h
  split at h
  · rename_i e; cases h; exact e
  · cases h
def nodK : List D → Bool
  | [] => true
  | d :: ds => !(ds.any fun e => decide (keyOf e = keyOf d)) && nodK ds
theorem nodK_ok : ∀ {es : List (Key × V)}, nodK (es.map fun e => keyD e.1) = true → (es.map (·.1)).Nodup
  | [], _ => List.nodup_nil
  | (k, v) :: es, h => by
    rw [List.map_cons, nodK, Bool.and_eq_true] at h
    rw [List.map_cons, List.nodup_cons]
    refine ⟨fun hm => ?_, nodK_ok h.2⟩
    obtain ⟨p, hp, e⟩ := List.mem_map.mp hm
    have h1 := h.1
    simp only [Bool.not_eq_true', List.any_eq_false, decide_eq_true_eq] at h1
    exact h1 (keyD p.1) (List.mem_map.mpr ⟨p, hp, rfl⟩) (by rw [keyOf_keyD, keyOf_keyD]; exact congrArg some e)
def fDput (i : Nat) (fk fv : Fe) : En → M Out := fun ρ => M.bnd (fv ρ) fun v => M.bnd (M.opt (dicAt ρ i)) fun p => M.bnd (fk ρ) fun k => M.bnd (M.opt (keyOf k)) fun q => if p.1.length < SZ ∧ nodK p.1 = true then M.ret (.next (ρ.set i (.ow (.dic (putD q v p.1 p.2).1 (putD q v p.1 p.2).2)))) else M.fail
theorem ts_dput {B : Bs} {E : XK} {i : Nat} {fk fv : Fe} {σ : L2.St} {D : Ends} (h : tS G B E (fDput i fk fv) D σ H) : sDPut (tVar i) (Ev G E (RB G) fk) (Ev G E (RE G) fv) D σ H := by
  obtain ⟨Hf, oa, ρ, τ, r, a⟩ := h
  refine ⟨Hf, oa, ρ, τ, r.rel, a.bnd r fun d τ1 v H1 Hf1 oa1 _ p1 g1 q1 r1 a1 => ?_⟩
  obtain ⟨p, ep, a1⟩ := ats_opt0 a1
  have ep := dicAt_some ep
  obtain ⟨x, e1, o⟩ := r1.rel.ow i _ ep
  obtain ⟨l, es, rfl, h1, h2, h3, h4, h5⟩ := o
  refine ⟨.ref l, e1, Hf1, oa1, ρ, τ1, r1.rel, a1.bnd r1 fun k τ2 y H2 Hf2 oa2 _ p2 g2 q2 r2 a2 => ?_⟩
  obtain ⟨q, eq, a2⟩ := ats_opt0 a2
  obtain ⟨hz, a3⟩ := ats_ite a2
  obtain ⟨x, e1', o⟩ := r2.rel.ow i _ ep
  rw [e1] at e1'
  cases e1'
  obtain ⟨l', es, el, h1, h2, h3, h4, h5⟩ := o
  cases el
  have q1' := q1.mono p2.exf p2.oax
  rw [← h4] at hz
  have pr := put_rp (k := q) q1' (nodK_ok hz.2) h5
  rw [h4] at pr
  have hl : es.length < sizeLine := by
    have := hz.1
    rw [List.length_map] at this
    exact Nat.lt_of_lt_of_le this (sz_le (Nat.le_refl _))
  refine ⟨l, _, rfl, .inl ⟨es, q, h1, key_v eq q2, hl, rfl⟩, ?_⟩
  refine a3 _ _ Hf2 oa2 .rfl' .rfl' (RelS.change r2 ep e1 ?_)
  exact ⟨l, _, rfl, upd_same, h2, h3, pr.1.symm, pr.2⟩
/-! ### {} -/
theorem ev_dnew {E : XK} {σ : L2.St} {Q : VK} (h : EvO G E (fC (.dic [] [])) σ H Q) : tDNewK σ H Q := by
  obtain ⟨Hf, oa, ρ, τ, rel, a⟩ := h
  intro p hp
  have pu := Pure.newO (o := .dK []) rel.good.ex hp
  exact At.pure (R := RO G H) a rel.good pu ⟨⟨p, [], rfl, upd_same, rel.good.nfz hp, rel.good.nvol hp, rfl, rpa_nil.mpr rfl⟩, fun l e => by cases e; exact .of hp⟩
/-! ### {"a": x, ..} -/
/-- keys (texts) with what the values do -/
def dTrs (G : GC) (E : XK) : List (Str × Fe) → List (TE × TE)
  | [] => []
  | (k, f) :: r => (tC (.str k), Ev G E (RE G) f) :: dTrs G E r
def dFa : List (Str × Fe) → Fa
  | [] => fNil
  | (_, f) :: r => fCons f (dFa r)
theorem ev_pairs {E : XK} {σ : L2.St} : ∀ {l : List (Str × Fe)} {H : Hp} {Q : List (V × V) → Hp → Prop}, Ev G E (RA G) (dFa l) σ H (fun vs H' => vs.length = l.length ∧ Q ((l.map fun p => V.str p.1).zip vs) H') → tPairs (dTrs G E l) σ H Q
  | [], H, Q, h => by
    obtain ⟨Hf, oa, ρ, τ, rel, a⟩ := h
    exact (At.ret (R := RA G) (v := []) a rel.good (rpa_nil.mpr rfl)).2
  | (k, f) :: r, H, Q, h => by
    obtain ⟨Hf, oa, ρ, τ, rel, a⟩ := h
    show Ev G E (RE G) f σ H fun y H2 => tPairs (dTrs G E r) σ H2 fun ps H3 => Q ((V.str k, y) :: ps) H3
    refine ⟨Hf, oa, ρ, τ, rel, a.bnd fun d1 τ1 x H1 Hf1 oa1 _ p1 g1 r1 a1 => ev_pairs (l := r) ⟨Hf1, oa1, ρ, τ1, rel.post p1 g1, a1.bnd fun d2 τ2 y H2 Hf2 oa2 _ p2 g2 r2 a2 => ?_⟩⟩
    have := At.ret (R := RA G) (v := x :: y) a2 g2 (rpa_cons.mpr ⟨x, y, rfl, r1.mono p2.exf p2.oax, r2⟩)
    exact ⟨by have := this.1; simpa using this, this.2⟩
def fDsp (l : List (Str × Fe)) : Fe := fun ρ => M.bnd (dFa l ρ) fun vs => if l.length ≤ 15 ∧ nodK (l.map fun p => D.str p.1) = true then M.ret (.dic (l.map fun p => D.str p.1) vs) else M.fail
theorem merge_new : ∀ (kvs acc : List (Key × V)), ((acc ++ kvs).map (·.1)).Nodup → mergeK acc kvs = acc ++ kvs
  | [], acc, _ => by simp [mergeK]
  | p :: r, acc, nd => by
    have hn : valV acc p.1 = none := by
      cases q : valV acc p.1 with
      | none => rfl
      | some v =>
        exfalso
        rw [List.map_append, List.map_cons] at nd
        have := (List.nodup_append.mp nd).2.2
        unfold valV at q
        obtain ⟨x, hx, _⟩ := Option.map_eq_some_iff.mp q
        have hm := List.mem_of_find?_eq_some hx
        have he := List.find?_some hx
        simp only [decide_eq_true_eq] at he
        exact this x.1 (List.mem_map.mpr ⟨x, hm, rfl⟩) p.1 List.mem_cons_self he
    show mergeK (putK acc p.1 p.2) r = _
    rw [putK_new p.2 hn, merge_new r (acc ++ [(p.1, p.2)]) (by simpa using nd)]
    simp
def kvOf : List (Str × Fe) → List V → List (Key × V)
  | (k, _) :: r, v :: vs => (.inr k, v) :: kvOf r vs
  | _, _ => []
theorem kvOf_ok : ∀ {l : List (Str × Fe)} {vs : List V}, vs.length = l.length → ((l.map fun p => V.str p.1).zip vs = (kvOf l vs).map fun kv => (kV kv.1, kv.2)) ∧ (kvOf l vs).length = l.length ∧ (kvOf l vs).map (·.2) = vs ∧ (kvOf l vs).map (fun e => keyD e.1) = l.map fun p => D.str p.1
  | [], [], _ => ⟨rfl, rfl, rfl, rfl⟩
  | (k, f) :: r, v :: vs, h => by
    obtain ⟨h1, h2, h3, h4⟩ := kvOf_ok (l := r) (vs := vs) (by simpa using h)
    refine ⟨?_, by simp [kvOf, h2], by simp [kvOf, h3], by simp only [kvOf, List.map_cons, h4]; rfl⟩
    simp only [List.map_cons, List.zip_cons_cons, kvOf, h1]
    rfl
  | [], _ :: _, h => by simp at h
  | _ :: _, [], h => by simp at h
theorem ev_dspO {E : XK} {l : List (Str × Fe)} {σ : L2.St} {Q : VK} (h : EvO G E (fDsp l) σ H Q) : tDisp (dTrs G E l) σ H Q := by
  obtain ⟨Hf, oa, ρ, τ, rel, a⟩ := h
  intro p hp
  have pu := Pure.newO (o := .dK []) rel.good.ex hp
  have rel0 := rel.post (pu.post (T := G.T) (oa := oa)) (rel.good.pure pu)
  have np := rel.good.nvol hp
  refine ev_pairs ⟨Hf, oa, ρ, τ, rel0, ?_⟩
  have a' : At G E (RO G H) (fDsp l ρ) Hf oa τ (upd H p (.dK [])) Q := a.shift (pu.post (T := G.T) (oa := oa))
  refine At.bnd (R := RA G) a' fun ds τ1 vs H1 Hf1 oa1 _ p1 g1 r1 a1 => ?_
  obtain ⟨hz, a2⟩ := At.ite a1
  have kp : H1 p = some (.dK []) := p1.keep p _ upd_same np
  have hl : vs.length = l.length := by
    have e0 : ∀ {l : List (Str × Fe)} {ds : List D} {τ τ' : Tau}, dFa l ρ τ = .ok ds τ' → ds.length = l.length := by
      intro l
      induction l with
      | nil => intro ds τ τ' e; cases e; rfl
      | cons q r ih =>
        obtain ⟨k, f⟩ := q
        intro ds τ τ' e
        have e : M.bnd (f ρ) (fun x => M.bnd (dFa r ρ) fun xs => M.ret (x :: xs)) τ = .ok ds τ' := e
        unfold M.bnd at e
        cases q1 : f ρ τ with
        | ok d t =>
          rw [q1] at e
          simp only at e
          cases q2 : dFa r ρ t with
          | ok xs t2 =>
            rw [q2] at e
            simp only at e
            cases e
            rw [List.length_cons, List.length_cons, ih q2]
          | exc c t2 => rw [q2] at e; cases e
          | stuck => rw [q2] at e; cases e
        | exc c t => rw [q1] at e; cases e
        | stuck => rw [q1] at e; cases e
    rw [RpA.length r1]
    exact e0 (by assumption)
  obtain ⟨k1, k2, k3, k4⟩ := kvOf_ok (l := l) hl
  refine ⟨hl, kp, kvOf l vs, k1, by omega, ?_⟩
  have nd : ((kvOf l vs).map (·.1)).Nodup := nodK_ok (by rw [k4]; exact hz.2)
  rw [merge_new (kvOf l vs) [] (by simpa using nd), List.nil_append]
  have nf : Hf1 p = none := by
    rw [p1.fz p _ upd_same np]
    exact rel.good.nfz hp
  have nv : ¬ Vol G.T oa1 p := p1.nv upd_same np
  have g1' : Good G Hf1 oa1 τ1 (upd H1 p (.dK (kvOf l vs))) := by
    refine ⟨fun a o h => ?_, g1.tok.stay fun a v u h => ?_, fun q hq => ?_, g1.vol, g1.ntb⟩
    · rw [upd_ne (ne_of_none h nf)]; exact g1.ex a o h
    · rw [upd_ne (fun z => nv (by rw [← z]; exact .inl v))]; exact h
    · obtain ⟨ps, h1, h2, h3⟩ := g1.tab q hq
      refine ⟨ps, by rw [upd_ne (fun z => nv (by rw [← z]; exact .inr (List.mem_map.mpr ⟨q, hq, rfl⟩)))]; exact h1, h2, fun pos cv hc => ?_⟩
      obtain ⟨c, h4, h5⟩ := h3 pos cv hc
      refine ⟨c, h4, ?_⟩
      by_cases z : c = p
      · rw [z, kp] at h5; cases h5
      · rw [upd_ne z]; exact h5
  have po : Post G.T Hf oa (upd H p (.dK [])) Hf1 oa1 (upd H1 p (.dK (kvOf l vs))) → True := fun _ => trivial
  have pf : Post G.T Hf oa H Hf1 oa1 (upd H1 p (.dK (kvOf l vs))) := by
    refine ⟨p1.exf, fun a o h n t => ?_, fun a o h n t => ?_, p1.oax, fun a v => ?_, fun a o h t => ?_⟩
    · have na : a ≠ p := ne_of_none h hp
      rw [upd_ne na]
      exact p1.keep a o (by rw [upd_ne na]; exact h) n t
    · exact p1.fz a o (by rw [upd_ne (ne_of_none h hp)]; exact h) n t
    · rcases p1.new a v with z | z
      · exact .inl z
      · by_cases q : a = p
        · subst q; exact .inr (.of hp)
        · exact .inr fun o e => z o (by rw [upd_ne q]; exact e)
    · have na : a ≠ p := ne_of_none h hp
      obtain ⟨o', e, t'⟩ := p1.per a o (by rw [upd_ne na]; exact h) t
      exact ⟨o', by rw [upd_ne na]; exact e, t'⟩
  have a0 : At G E (RO G H) (fDsp l ρ) Hf oa τ H Q := a
  have e1 : fDsp l ρ τ = .ok (.dic (l.map fun p => D.str p.1) ds) τ1 := by
    unfold fDsp
    rw [bnd_ok (by assumption)]
    rw [if_pos hz]
    rfl
  unfold At at a0
  rw [e1] at a0
  exact a0 (.ref p) _ Hf1 oa1 pf g1' ⟨⟨p, kvOf l vs, rfl, upd_same, nf, nv, k4, by rw [k3]; exact r1⟩, fun l' e => by cases e; exact .of hp⟩
/-! ### d.update({..}) -/
def rUpd : V → List V → Hp → VK → Prop := fun x vs H Q => ∃ l b es zs, x = .ref l ∧ vs = [.ref b] ∧ l ≠ b ∧ H l = some (.dK es) ∧ H b = some (.dK zs) ∧ es.length + zs.length ≤ sizeLine ∧ Q .non (upd H l (.dK (mergeK es zs)))
theorem mt_upd {X : Cx} : MtM X "dict.update" rUpd := by
  intro pins s σ H x vs v us Q I rx rv h
  obtain ⟨l, b, es, zs, rfl, rfl, ne, hH, hB, hz, q⟩ := h
  cases rx
  obtain ⟨u, rfl, ru⟩ := rv.one
  cases ru
  obtain ⟨z1, hd, vs1, rel1, dd1⟩ := dk_of I.hok hH
  obtain ⟨z2, hd2, vs2, rel2, dd2⟩ := dk_of I.hok hB
  refine call_meetsIn PySem.F.slot_dict_update dd1.typeIs PySem.F.entry_dict_update (PySem.F.args_dict_update_2 _ _) (meets_dict_update (mixKind X.prog X.w) l b ne hd2) ⟨vs1, vs2, dd1, dd2, by rw [← rel1.length, ← rel2.length]; exact hz, fun h' dd' _ hs => ?_⟩
  have he : ∃ q, h'.get? l = some q := let ⟨q, _, _, hq, _⟩ := dd'; ⟨q, hq⟩
  have hl : (mergeK es zs).length ≤ sizeLine := Nat.le_trans (length_mergeK zs es) hz
  exact ⟨.non, _, d_write (t' := s.toks) I (by rw [hH]; exact True.intro) hs he (dk_new hl hd (rel2.merge rel1) dd'), rfl, q⟩
def fUpd (i : Nat) (l : List (Str × Fe)) : En → M Out := fun ρ => M.bnd (M.opt (dicAt ρ i)) fun p => M.bnd (fDsp l ρ) fun d => M.bnd (M.opt (dicOf d)) fun q => if p.1.length + q.1.length ≤ SZ ∧ nodK (p.1 ++ q.1) = true then M.ret (.next (ρ.set i (.ow (.dic (p.1 ++ q.1) (p.2 ++ q.2))))) else M.fail
theorem ts_upd {B : Bs} {E : XK} {i : Nat} {l : List (Str × Fe)} {σ : L2.St} {D : Ends} (h : tS G B E (fUpd i l) D σ H) : tDrop (tBM G.K "dict" rUpd (tVar i) (tCons (tDisp (dTrs G E l)) tNil)) D σ H := by
  obtain ⟨Hf, oa, ρ, τ, r, a⟩ := h
  obtain ⟨p, ep, a⟩ := ats_opt0 a
  have ep := dicAt_some ep
  obtain ⟨x, e1, o⟩ := r.rel.ow i _ ep
  obtain ⟨c, es, rfl, h1, h2, h3, h4, h5⟩ := o
  refine ⟨.ref c, e1, .inr (.inr (.inl ⟨rfl, .inl ⟨es, h1⟩⟩)), ?_⟩
  refine ev_dspO (G := G) (l := l) ⟨Hf, oa, ρ, τ, r.rel, AtS.bnd (R := RO G H) a r fun d τ1 v H1 Hf1 oa1 _ p1 g1 q1 r1 a1 => ?_⟩
  obtain ⟨q, eq, a1⟩ := ats_opt0 a1
  obtain ⟨hz, a2⟩ := ats_ite a1
  have ed := dicOf_some eq
  subst ed
  obtain ⟨⟨b, zs, rfl, u1, u2, u3, u4, u5⟩, fr⟩ := q1
  have nb := fr b rfl
  have ne : c ≠ b := fun z => nb _ (by rw [← z]; exact h1) (by intro ps h; cases h)
  have k1 := p1.keep c _ h1 h3
  have ks : ((es ++ zs).map fun e => keyD e.1) = p.1 ++ q.1 := by rw [List.map_append, h4, u4]
  have nd : ((es ++ zs).map (·.1)).Nodup := nodK_ok (by rw [ks]; exact hz.2)
  have hlen : es.length + zs.length ≤ sizeLine := by
    have := hz.1
    rw [← h4, ← u4, List.length_map, List.length_map] at this
    exact sz_le this
  refine ⟨c, b, es, zs, rfl, rfl, ne, k1, u1, hlen, ?_⟩
  rw [merge_new zs es nd]
  refine a2 σ _ Hf1 oa1 .rfl' .rfl' (RelS.change r1 ep e1 ⟨c, es ++ zs, rfl, upd_same, (p1.fz c _ h1 h3).trans h2, p1.nv h1 h3, ks, ?_⟩)
  rw [List.map_append]
  exact (h5.mono p1.exf p1.oax).append u5
/-! ### a dict is locked, from then on it stays -/
theorem RelS.lock {B : Bs} {ρ : En} {τ : Tau} {σ : L2.St} {ks vs : List D} {i : Nat} {l : Addr} {es : List (Key × V)} {od : Obj} (r : RelS G B Hf oa ρ τ σ H) (e : ρ[i]? = some (.ow (.dic ks vs))) (ev : σ[i]? = some (some (.ref l))) (h1 : H l = some (.dK es)) (h2 : Hf l = none) (h3 : ¬ Vol G.T oa l) (h4 : es.map (fun e => keyD e.1) = ks) (h5 : RpA G oa Hf vs (es.map (·.2))) :
    Ex Hf (upd Hf l (.frz od (.dK es))) ∧ RelS G B (upd Hf l (.frz od (.dK es))) oa (ρ.set i (.fz (.dic ks vs))) τ σ (upd H l (.frz od (.dK es))) := by
  have ex : Ex Hf (upd Hf l (.frz od (.dK es))) := fun a o h => by rw [upd_ne (ne_of_none h h2)]; exact h
  have bl : No B.H l := r.fresh i _ l e ev
  refine ⟨ex, ⟨⟨⟨fun a o h => ?_, r.rel.good.tok.stay fun a v u h => ?_, fun p hp => ?_, fun a v => ?_, fun a ps h => ?_⟩, by simp [r.rel.len], fun k d' q => ?_, fun k d' q => ?_, fun k m d1 d2 hkm q1 q2 => ?_⟩, ⟨r.base.exf.tr ex, fun a o h n t => ?_, fun a o h n t => ?_, r.base.oax, r.base.new, fun a o h t => ?_⟩, fun k d' l' q1 q2 => ?_⟩⟩
  · by_cases z : a = l
    · subst z; rw [upd_same] at h ⊢; exact h
    · rw [upd_ne z] at h ⊢; exact r.rel.good.ex a o h
  · rw [upd_ne (fun z => h3 (by rw [← z]; exact .inl v))]; exact h
  · obtain ⟨ps, t1, t2, t3⟩ := r.rel.good.tab p hp
    refine ⟨ps, by rw [upd_ne (fun z => h3 (by rw [← z]; exact .inr (List.mem_map.mpr ⟨p, hp, rfl⟩)))]; exact t1, t2, fun pos cv hc => ?_⟩
    obtain ⟨c, t4, t5⟩ := t3 pos cv hc
    refine ⟨c, t4, ?_⟩
    by_cases z : c = l
    · rw [z, h1] at t5; cases t5
    · rw [upd_ne z]; exact t5
  · rw [upd_ne (fun z => h3 (by rw [← z]; exact v))]; exact r.rel.good.vol a v
  · by_cases z : a = l
    · subst z; rw [upd_same] at h; cases h
    · rw [upd_ne z] at h; exact r.rel.good.ntb a ps h
  · rcases get_set q with ⟨rfl, e', hl⟩ | ⟨n, q⟩
    · cases e'
      exact ⟨.ref l, ev, rp_dic.mpr ⟨l, od, es, rfl, upd_same, h4, h5.mono ex .rfl'⟩⟩
    · obtain ⟨w, u1, u2⟩ := r.rel.fz k d' q
      exact ⟨w, u1, u2.mono ex .rfl'⟩
  · rcases get_set q with ⟨rfl, e', hl⟩ | ⟨n, q⟩
    · cases e'
    · obtain ⟨w, u1, u2⟩ := r.rel.ow k d' q
      refine ⟨w, u1, ?_⟩
      have ne : ∀ l', w = .ref l' → l' ≠ l := fun l' ew z => by
        subst ew; subst z
        exact r.rel.dis k i d' _ n q e (by rw [u1, ev])
      cases d' with
      | lst ds =>
        obtain ⟨l', ws, ew, t3, t4, t5, t6⟩ := u2
        exact ⟨l', ws, ew, by rw [upd_ne (ne l' ew)]; exact t3, by rw [upd_ne (ne l' ew)]; exact t4, t5, t6.mono ex .rfl'⟩
      | dic ks ds =>
        obtain ⟨l', ws, ew, t3, t4, t5, t6, t7⟩ := u2
        exact ⟨l', ws, ew, by rw [upd_ne (ne l' ew)]; exact t3, by rw [upd_ne (ne l' ew)]; exact t4, t5, t6, t7.mono ex .rfl'⟩
      | dnt ks ds =>
        obtain ⟨l', es', ep, xs, ws, ew, t3, t4, t5, t6, t7, t8, t9, t10, t11, t12, t13⟩ := u2
        exact ⟨l', es', ep, xs, ws, ew, by rw [upd_ne (ne l' ew)]; exact t3, by rw [upd_ne (ne l' ew)]; exact t4, t5, t6, t7, t8, t9, t10, t11.mono ex .rfl', t12, t13.mono ex .rfl'⟩
      | _ => exact u2.elim
  · rcases get_set q1 with ⟨rfl, e', hl⟩ | ⟨n, q1⟩
    · cases e'
    · rcases get_set q2 with ⟨rfl, e', hl⟩ | ⟨n2, q2⟩
      · cases e'
      · exact r.rel.dis k m d1 d2 hkm q1 q2
  · rw [upd_ne (fun z => bl o (by rw [← z]; exact h) t)]; exact r.base.keep a o h n t
  · rw [upd_ne (fun z => bl o (by rw [← z]; exact h) t)]; exact r.base.fz a o h n t
  · by_cases z : a = l
    · exact absurd t (bl o (by rw [← z]; exact h))
    · rw [upd_ne z]; exact r.base.per a o h t
  · rcases get_set q1 with ⟨rfl, e', hl⟩ | ⟨n, q1⟩
    · cases e'
    · exact r.fresh k d' l' q1 q2
def fLock (i : Nat) (f : En → M Out) : En → M Out := fun ρ => M.bnd (M.opt (dicAt ρ i)) fun p => f (ρ.set i (.fz (.dic p.1 p.2)))
theorem ps_lock {X : Cx} {B : Bs} {E : XK} {st : Stmt} {i : Nat} {f : En → M Out} (h : PS X st (tS G B E f)) : PS X st (tS G B E (fLock i f)) := by
  refine ⟨fun pins s σ H D I q => ?_⟩
  obtain ⟨Hf, oa, ρ, τ, r, a⟩ := q
  obtain ⟨p, ep, a⟩ := ats_opt0 a
  have ep := dicAt_some ep
  obtain ⟨x, e1, o⟩ := r.rel.ow i _ ep
  obtain ⟨c, es, rfl, h1, h2, h3, h4, h5⟩ := o
  obtain ⟨od, I'⟩ := I.lock h1 True.intro
  obtain ⟨ex, r'⟩ := RelS.lock (od := od) r ep e1 h1 h2 h3 h4 h5
  exact h.run pins s σ _ D I' ⟨_, oa, _, τ, r', AtS.shift a ex .rfl'⟩
/-! ### the keys of a locked dict -/
def fKeys (i : Nat) : En → M (List D) := fun ρ => M.bnd (fVar i ρ) fun d => M.bnd (M.opt (dicOf d)) fun p => M.ret p.1
theorem yl_keys {a : Addr} {o : Obj} {es : List (Key × V)} (h1 : Hf a = some (.frz o (.dK es))) : Yl G oa Hf (Itk a o es) (es.map fun e => keyD e.1) := by
  intro i Hf1 H1 oa1 e1 e2 o1
  have hh : H1 a = some (.frz o (.dK es)) := e2 _ _ (e1 _ _ h1)
  rw [List.length_map]
  refine ⟨fun hi => ⟨⟨hh, hi⟩, fun x H2 hy => ?_⟩, fun hi => ⟨hh, by omega⟩⟩
  obtain ⟨rfl, k, v, ek, rfl⟩ := hy
  refine ⟨Hf1, keyD k, .rfl' e2, by rw [List.getElem?_map, ek]; rfl, ?_⟩
  cases k with
  | inl i => exact rp_int.mpr rfl
  | inr x => exact rp_str.mpr rfl
theorem ev_keys {E : XK} {i : Nat} {σ : L2.St} {R : It → Hp → Prop} (h : Ev G E (RI G) (fKeys i) σ H R) : iKeys (tVar i) σ H R := by
  obtain ⟨Hf, oa, ρ, τ, rel, a⟩ := h
  have h0 : Ev G E (RE G) (fVar i) σ H (fun x H1 => ∃ d o, x = .ref d ∧ ((∃ kvs, H1 d = some (.frz o (.dK kvs)) ∧ R (Itk d o kvs) H1) ∨ ∃ kvs, H1 d = some (.frz o (.dT kvs)) ∧ R (Itkt d o kvs) H1)) := by
    refine ⟨Hf, oa, ρ, τ, rel, a.bnd fun d τ1 x H1 Hf1 oa1 _ p1 g1 r1 a1 => ?_⟩
    obtain ⟨p, ep, b1⟩ := at_opt a1
    have := dicOf_some ep
    subst this
    obtain ⟨b, o, es, rfl, h1, h2, h3⟩ := rp_dic.mp r1
    refine ⟨b, o, rfl, .inl ⟨es, g1.ex _ _ h1, ?_⟩⟩
    rw [← h2] at b1
    exact At.ret (R := RI G) b1 g1 (yl_keys h1)
  exact ev_var h0
/-! ### isinstance of a caught exception -/
def rIsX (K : PySem.W.Frag) : List V → Hp → VK → Prop := fun xs H Q => ∃ (a C : Addr) (c : V) (cv : Value) (b : Bool), xs = [.ref a, c] ∧ H a = some (ExCO (.ref C) a) ∧ ExcC K C ∧ (∀ u, RelV c u → u = cv) ∧ PySem.W.kitOne K (.ref C) cv = some b ∧ Q (.bl b) H
theorem call_isX {X : Cx} : CallR X (.builtin "isinstance") (rIsX X.K) := by
  intro pins s σ H xs us Q I r h
  obtain ⟨a, C, c, cv, b, rfl, hH, hC, hcv, e, q⟩ := h
  cases r with
  | cons rx rr =>
    cases rr with
    | cons rt rr =>
      cases rr
      cases rx
      have ec := hcv _ rt
      subst ec
      obtain ⟨⟨oe, vs, hget, hz, hv⟩, _, _⟩ := I.hok a _ hH
      have J : PySem.W.InstAt s.heap a oe C none := by
        obtain ⟨oc, od, oda, osl⟩ := oe
        obtain ⟨h1, h2⟩ := hz
        dsimp only at h1 h2 hv
        subst h1 h2 hv
        exact ⟨hget, rfl, rfl, trivial⟩
      exact PySem.W.kia_one (PySem.W.handS_kitx_exc hC.hg hC.hk hC.hs hC.hd hC.ha hC.hn hC.ht hC.hm) I.kIn J e (fun z => nomatch z) fun tk => ⟨.bl b, H, I.kept (t' := tk) fun _ _ z => z, rfl, q⟩
def excOf : D → Option XC
  | .exc c => some c
  | _ => none
theorem excOf_some {d : D} {c : XC} (h : excOf d = some c) : d = .exc c := by
  cases d <;> cases h
  rfl
def fIsX (xs : List XC) (g : XC → Bool) (f : Fe) : Fe := fun ρ => M.bnd (f ρ) fun d => M.bnd (M.opt (excOf d)) fun c => if c ∈ xs then M.ret (.bl (g c)) else M.fail
theorem ev_isX {E : XK} {xs : List XC} {c' : XC} {fa : Fe} {σ : L2.St} {Q : VK} {C' : Addr} (hx : XK1 G.K G.mg xs) (hc : c' ∈ xs) (hm : G.mg (nameX c') = some (.ref C')) (h : Ev G E (RE G) (fIsX xs (fun c => decide (c = c')) fa) σ H Q) : tCB (rIsX G.K) (tCons (Ev G E (RE G) fa) (tCons (tC (.ref C')) tNil)) σ H Q := by
  obtain ⟨Hf, oa, ρ, τ, rel, a⟩ := h
  refine ⟨Hf, oa, ρ, τ, rel, a.bnd fun d1 τ1 x H1 Hf1 oa1 _ p1 g1 r1 a1 => ?_⟩
  obtain ⟨c, ec, b1⟩ := at_opt a1
  obtain ⟨hz, a2⟩ := At.ite b1
  have := excOf_some ec
  subst this
  obtain ⟨b, C, rfl, h1, h2⟩ := rp_exc.mp r1
  obtain ⟨C0, e0, hC⟩ := hx.cls c hz
  rw [h1] at e0
  cases e0
  exact ⟨b, C, .ref C', .ref C', _, rfl, g1.ex _ _ h2, hC, fun u ru => ru, hx.kit c hz c' hc C C' h1 hm, a2.ret g1 (rp_bl.mpr rfl)⟩
theorem ev_isV {E : XK} {xs : List XC} {fa : Fe} {σ : L2.St} {Q : VK} (hx : XK1 G.K G.mg xs) (h : Ev G E (RE G) (fIsX xs (fun _ => true) fa) σ H Q) : tCB (rIsX G.K) (tCons (Ev G E (RE G) fa) (tCons (tC (.ty "ValueError")) tNil)) σ H Q := by
  obtain ⟨Hf, oa, ρ, τ, rel, a⟩ := h
  refine ⟨Hf, oa, ρ, τ, rel, a.bnd fun d1 τ1 x H1 Hf1 oa1 _ p1 g1 r1 a1 => ?_⟩
  obtain ⟨c, ec, b1⟩ := at_opt a1
  obtain ⟨hz, a2⟩ := At.ite b1
  have := excOf_some ec
  subst this
  obtain ⟨b, C, rfl, h1, h2⟩ := rp_exc.mp r1
  obtain ⟨C0, e0, hC⟩ := hx.cls c hz
  rw [h1] at e0
  cases e0
  exact ⟨b, C, .ty "ValueError", .type "ValueError", _, rfl, g1.ex _ _ h2, hC, fun u ru => ru, hx.val c hz C h1, a2.ret g1 (rp_bl.mpr rfl)⟩
end
end KF
set_option maxHeartbeats 4000000
/-! KFK: the def that takes a lambda and tells how its call ended. -/
namespace KF
open PySem PySem.Spec PyProof.Rows L2
/-! ### an object of ours that stands is known from now on -/
theorem inv_track {X : Cx} {pins : List (Addr × Obj)} {σ : L2.St} {H : Hp} {s : Shared} {a : Addr} {o : HO} (I : L2.Inv X pins σ H s) (n0 : X.s_0.heap.get? a = none) (hn : H a = none) (nL : a ≠ X.env.locals) (nc : ∀ v, ¬ s.heap.IsCell a v) (np : ∀ p ∈ X.pn ++ pins, p.1 ≠ a)
    (new : ObjOk X.prog X.w (upd H a o) s.heap a o) : L2.Inv X pins σ (upd H a o) s := by
  have up : ∀ b u, H b = some u → upd H a o b = some u := fun b u e => by rw [upd_ne (ne_of_none e hn)]; exact e
  have dn : ∀ b, b ≠ a → H b = none → upd H a o b = none := fun b z e => by rw [upd_ne z]; exact e
  refine ⟨I.ok, I.os, I.bare, ⟨I.base.keep, I.base.slot, fun b u e n hx => dn b (fun z => by rw [z, n0] at e; cases e) (I.base.free b u e n hx), I.base.there, fun b xs e => up b _ (I.base.tups b xs e), fun b ob u e => up b _ (I.base.frzs b ob u e), fun b ps e => ?_⟩, I.loc, I.cell, dn _ (Ne.symm nL) I.free, fun x c e => dn c (fun z => ?_) (I.freeC x c e), fun p hp => ?_, fun b u e => ?_, I.len⟩
  · obtain ⟨more, q⟩ := I.base.tbls b ps e
    exact ⟨more, up b _ q⟩
  · obtain ⟨v, q⟩ := I.cell x c e
    rw [z] at q
    exact nc v q
  · obtain ⟨h1, h2, h3, h4, h5⟩ := I.pin p hp
    exact ⟨h1, dn _ (np p hp) h2, h3, h4, h5⟩
  · by_cases z : b = a
    · subst z
      rw [upd_same] at e
      cases e
      exact new
    · rw [upd_ne z] at e
      exact (I.hok b u e).stay (fun _ _ _ q => q) (fun c q => up c _ q) fun c xs q => up c _ q
/-! ### try: body / except x as n: one statement; the exception is known behind it -/
def wTrk (K : PySem.W.Frag) (c : Value) (n i j : Nat) (D : Ends) : WX := fun cls d σ H =>
  d = none ∧ PySem.W.exmOne K cls c = some true ∧ (σ.length = n → ∀ a, H a = none → D.nx (((σ.set i (some (.ref a))).set j (some (.ref a))).set i none) (upd H a (ExCO cls a)))
theorem ps_try_trk {X : Cx} {x n y : Str} {c : Value} {i j : Nat} {body : List Stmt} {np p1 p2 p3 pos pos' : Pos} {tb : WX → TS} (hs : X.stack = X.env :: X.outer) (hf : X.env.frame = some X.env.locals) (hex : X.ex = []) (hN : X.N.Nodup) (hi : X.N[i]? = some n) (hln : X.env.kindOf n = some .local) (hj : X.N[j]? = some y) (hly : X.env.kindOf y = some .local) (hij : i ≠ j)
    (hc : Names X x c) (okn : (n == ("__debug__" : Str)) = false ∧ (n == ("__classdict__" : Str)) = false)
    (hb : ∀ (W : WX) (pn : List (Addr × Obj)) (xe : Value → Shared → Prop), Takes (X.tr pn xe) W → PassesOwn (model X.prog X.w) X.A X.env xe → PSs (X.tr pn xe) body (tb W)) :
    PS X (.Try body [.ExceptHandler (some (.Name x np)) (some n) [.Assign [.Name y p1] (.Name n p2) p3] pos'] [] [] pos) (fun D σ H => tb (wTrk X.K c X.N.length i j D) D σ H) := by
  refine ⟨fun pins s σ H D I h => ?_⟩
  have ok := I.ok
  have frames : X.A.frames = some (X.env :: X.outer) := by rw [ok.frames, hs]
  refine wpAny_Try_except ?_
  refine wpAny_mono ((hb (wTrk X.K c X.N.length i j D) (X.pn ++ pins) (fun e s₁ => wpAny (model X.prog X.w) X.A (noteFrame e X.env) (fun _ s₂ => wpAny (model X.prog X.w) X.A (setFlight e none) (fun _ s₃ => wpAny (model X.prog X.w) X.A (handleBy e X.env [.ExceptHandler (some (.Name x np)) (some n) [.Assign [.Name y p1] (.Name n p2) p3] pos']) (SP X pins D) X.xe s₃) X.xe s₂) X.xe s₁)
    (fun u s' xx => ?_) PassesOwn.looking).run [] s σ H D (I.toTry _) h) (fun f s1 hsp => ?_) (fun e s1 he => he)
  · obtain ⟨a, B, sI, pins', σ', H', cls, d, rfl, J', nb, up, sky, na, os, ag, hd0, hb1, hyes⟩ := xx
    have J : L2.Inv X pins σ' H' sI := J'.ofTry ok
    rw [hs] at sky
    show wpAny (model X.prog X.w) X.A (noteFrame (.ref a) X.env) _ _ _
    refine Sky.land Zc.steady frames hf sky fun h3 fl3 up3 => ?_
    have J3 : L2.Inv X pins σ' H' { s' with heap := h3 } := J.landed nb fl3.1 (up.trans up3) os ag
    obtain ⟨oe3, vs3, he3, hz3, hd3⟩ := fl3.there
    have offFr : a ∉ frs (X.env :: X.outer) := fun hm => by
      obtain ⟨_, o', e', hnf⟩ := fl3.2.2.1.mem hm
      rw [he3] at e'
      cases e'
      exact hnf _ hd3
    have nL : a ≠ X.env.locals := fun z => offFr (List.mem_filterMap.mpr ⟨X.env, List.mem_cons_self, by rw [hf, z]⟩)
    have nF : a ∉ X.fs := fun hm => by
      obtain ⟨e, he, q⟩ := List.mem_filterMap.mp hm
      exact offFr (List.mem_filterMap.mpr ⟨e, List.mem_cons_of_mem _ he, q⟩)
    have nB : B.get? a = none := fl3.2.1
    have inB : ∀ b o, sI.heap.get? b = some o → b ∉ frs X.stack → b ≠ a := fun b o e hb z => by
      have q := nb b o e hb
      rw [z, nB] at q
      cases q
    have n0 : X.s_0.heap.get? a = none := by
      cases e : X.s_0.heap.get? a with
      | none => rfl
      | some o =>
        obtain ⟨o', e'⟩ := J.base.there a o e (by rw [hex]; simp)
        exact absurd rfl (inB a o' e' (by rw [hs]; exact offFr))
    have nP : ∀ p ∈ X.pn ++ pins, p.1 ≠ a := fun p hp => by
      obtain ⟨h1, h2, h3, h4, h5⟩ := J.pin p hp
      refine inB p.1 p.2 h1 fun hm => ?_
      rcases List.mem_cons.mp (J.stkSub _ hm) with z | z
      · exact h3 z
      · exact h4 z
    have S3 := J3.suite he3 hd3 na nL nF
    refine wpAny_handleBy_cons (codeAny_handlers_test ?_) (by intro q; cases q)
    have tyE : PySem.W.Looks (model X.prog X.w) h3 (typeOf (.ref a)) cls := fun A Q E s k q => wpAny_typeOf_ref (k _ _ he3) (by rw [hz3.1]; exact q)
    have look := PySem.W.exm_one (M := model X.prog X.w) (J3.kIn) tyE hb1
    have name : ∀ {Q : Value → Shared → Prop} {E : Value → Shared → Prop}, Q c { s' with heap := h3 } → wpAny (model X.prog X.w) (X.A.mark (some (.ref a))) (eval (.Name x np) X.env) Q E { s' with heap := h3 } := fun {Q E} q => by
      obtain ⟨hg, hdbg, hm | ⟨hm, hv, hnn⟩⟩ := hc
      · exact ld_glob (X := X.suite a ((a, oe3) :: (X.pn ++ pins))) S3 hg hm q hdbg
      · exact ld_blt (X := X.suite a ((a, oe3) :: (X.pn ++ pins))) S3 hg hm hv q hnn hdbg
    refine name (look.here ?_)
    refine codeAny_handlers_suite_as ?_
    refine HandSPX.lands_againZ fl3 fun h4 fl4 up4 => ?_
    have J4 : L2.Inv X pins σ' H' { s' with heap := h4 } := J.landed nb fl4.1 ((up.trans up3).trans up4) os ag
    obtain ⟨oe4, vs4, he4, hz4, hd4⟩ := fl4.there
    have S4 := J4.suite he4 hd4 na nL nF
    have hloc : Loc X.env.scope n := .inl hln
    refine store_ok (X := X.suite a ((a, oe4) :: (X.pn ++ pins))) (v := .ref a) S4 hN hi hloc rfl (fun s5 S5 => ?_) (.inr hln)
    have len : i < σ'.length := by rw [J.len]; exact (List.getElem?_eq_some_iff.mp hi).1
    have run := (pss_one (ps_set (X := X.suite a ((a, oe4) :: (X.pn ++ pins))) (pos := p3) (pos' := p1) hN hj (.inl hly) (pe_var (pos := p2) (i := i) hi (.inl hln) okn.1 okn.2) rfl (.inr hly))).run [] s5 _ H' { nx := fun σ6 H6 => σ6 = ((σ'.set i (some (.ref a))).set j (some (.ref a))) ∧ H6 = H', rt := fun _ _ => False, bk := fun _ _ => False, ct := fun _ _ => False } S5 ⟨_, List.getElem?_set_self len, rfl, rfl⟩
    refine wpAny_mono run (fun f s6 hsp => ?_) (fun _ _ z => False.elim z)
    cases f with
    | next =>
      obtain ⟨σ6, H6, S6, e6, e7⟩ := hsp
      subst e6
      subst e7
      obtain ⟨g1, g2, g3, g4, g5⟩ := S6.pin (a, oe4) (by simp)
      have J6 := inv_track (a := a) (o := ExCO cls a) (S6.unsuite ok) n0 na nL (fun v z => ?_) nP ?_
      · exact gone_ok J6 hN hi hln fun s7 J7 => ⟨_, _, J7, hyes J.len a na⟩
      · obtain ⟨o', z1, z2⟩ := z
        rw [g1] at z1
        cases z1
        exact g5 v z2
      · refine ⟨⟨oe4, vs4, g1, ?_, hd4⟩, ⟨oe4, g1⟩, fun h1 h2 ⟨o1, w1, e1, e2, e3⟩ st => ⟨o1, w1, st _ e1, e2, e3⟩⟩
        rw [hd0] at hz4
        exact hz4
    | brk => obtain ⟨_, _, _, z⟩ := hsp; exact z.elim
    | cont => obtain ⟨_, _, _, z⟩ := hsp; exact z.elim
    | ret u => obtain ⟨_, _, _, _, _, z⟩ := hsp; exact z.elim
  · cases f with
    | next =>
      obtain ⟨σ', H', J', q⟩ := hsp
      exact wpAny_execs_nil ⟨σ', H', J'.ofTry ok, q⟩
    | brk =>
      obtain ⟨σ', H', J', q⟩ := hsp
      exact ⟨σ', H', J'.ofTry ok, q⟩
    | cont =>
      obtain ⟨σ', H', J', q⟩ := hsp
      exact ⟨σ', H', J'.ofTry ok, q⟩
    | ret u =>
      obtain ⟨v, σ', H', J', r, q⟩ := hsp
      exact ⟨v, σ', H', J'.ofTry ok, r, q⟩
end KF
set_option maxHeartbeats 4000000
/-! KFL: the compiler, dicts with text keys, exceptions that were caught. -/
namespace KF
open PySem PySem.Spec PyProof.Rows L2
section
variable {P : Par} {c : Ctx}
/-- isinstance(a, C), a an exception that was caught -/
def mkIsX (x : Str) (p pos : Pos) {a : Expr} (A : CE P c a) (T : Str) (p2 : Pos) : Option (CE P c (.Call (.Name x p) [a, .Name T p2] [] pos)) :=
  if hx : x = "isinstance" ∧ c.xk = true ∧ glB c.sc x = true ∧ glB c.sc T = true ∧ isStar a = false ∧ okName T = true then
    match hT : xcOf xcAll T with
    | some k => some ⟨fIsX xcAll (fun c => decide (c = k)) A.f, fun X E o => ⟨fun pins s σ H Q I q => by
        obtain ⟨h1, h2, h3, h4, h5, h6⟩ := hx
        subst h1
        obtain ⟨hk, hn⟩ := xcOf_ok hT
        have xk := o.xk h2
        obtain ⟨C, hC, _⟩ := xk.cls k hk
        have hC' : X.mg T = some (.ref C) := by rw [← hn]; exact hC
        exact (pe_callB call_isX (o.gl h3) (o.mg (by decide)) boot_isinstance (pa_cons (A.ok X E o) (pa_cons (pe_glob (v := .ref C) (o.gl h4) hC' rfl (okName_1 h6).1) pa_nil (star_no rfl _ _)) (star_no h5 _ _)) (by decide) (by decide) (star_no h5 _ _) (backTo_any (star_all rfl))).run pins s σ H Q I (ev_isX (G := gc P X) xk hk hC q)⟩⟩
    | none => if hV : T = "ValueError" then some ⟨fIsX xcAll (fun _ => true) A.f, fun X E o => by
        obtain ⟨h1, h2, h3, h4, h5, h6⟩ := hx
        subst h1 hV
        exact PE.mono (pe_callB call_isX (o.gl h3) (o.mg (by decide)) boot_isinstance (pa_cons (A.ok X E o) (pa_cons (pe_bltn (v := .ty "ValueError") (o.gl h4) (o.mg (by decide)) rfl rfl (by decide) (by decide)) pa_nil (star_no rfl _ _)) (star_no h5 _ _)) (by decide) (by decide) (star_no h5 _ _) (backTo_any (star_all rfl))) fun _ _ _ q => ev_isV (G := gc P X) (o.xk h2) q⟩ else none
  else none
/-- the pairs of a display -/
structure CP (P : Par) (c : Ctx) (ks : List (Option Expr)) (vs : List Expr) where
  l : List (Str × Fe)
  ok : ∀ pos X E, XOk P c X E → PPs X pos ks vs (dTrs (gc P X) E l)
  all : ks.all (·.isSome) = true
  len : ks.length = vs.length
def mkPs (rec : (e : Expr) → Option (CE P c e)) : (ks : List (Option Expr)) → (vs : List Expr) → Option (CP P c ks vs)
  | [], [] => some ⟨[], fun _ _ _ _ => pps_nil, rfl, rfl⟩
  | some (.Constant (.str k) j p) :: ks, v :: vs => match rec v, mkPs rec ks vs with
    | some A, some B => some ⟨(k, A.f) :: B.l, fun pos X E o => pps_cons pe_str (A.ok X E o) (B.ok pos X E o), by simp [B.all], by simp [B.len]⟩
    | _, _ => none
  | _, _ => none
/-- x = {..} -/
def mkSetD (x : Str) (px pos dpos : Pos) {ks : List (Option Expr)} {vs : List Expr} (A : CP P c ks vs) : Option (CS P c (.Assign [.Name x px] (.Dict ks vs dpos) pos)) :=
  match h : slotL P c x with
  | none => none
  | some i => if h0 : ks ≠ [] ∧ ks.length ≤ 15 then some ⟨fun _ => fAsgO i (fDsp A.l), fun n X E B o => PS.mono (ps_setK o h (pe_disp (A.ok dpos X E o) A.all A.len h0.1 h0.2) rfl) fun D σ H q => ev_dspO (ts_asgO (G := gc P X) q)⟩ else none
/-- x.update({..}) -/
def mkUpd (x m : Str) (p ap cp pos dpos : Pos) {ks : List (Option Expr)} {vs : List Expr} (A : CP P c ks vs) : Option (CS P c (.Expr (.Call (.Attribute (.Name x p) m ap) [.Dict ks vs dpos] [] cp) pos)) :=
  match hx : slotOf x P.N with
  | none => none
  | some i => if h : m = "update" ∧ visB c.sc x = true ∧ okName x = true ∧ (ap.endLine == cp.line) = true ∧ ks ≠ [] ∧ ks.length ≤ 15 then some ⟨fun _ => fUpd i A.l, fun n X E B o => by
      obtain ⟨h1, h2, h3, h5, h6, h7⟩ := h
      subst h1
      exact PS.mono (ps_expr (pe_bm PySem.F.plainAttrs_dict PySem.F.slot_dict_update PySem.F.type_dict_update mt_upd (pe_var (i := i) (by rw [o.nms]; exact slotOf_some hx) (by rw [o.scp]; exact visB_vis h2) (okName_1 h3).1 (okName_1 h3).2) (pa_cons (pe_disp (A.ok dpos X E o) A.all A.len h6 h7) pa_nil (star_no rfl _ _)) (call_no rfl _ _ _)
        (few_ok (by simp [starOk, isStar]) (by simp)) h5 (star_no rfl _ _) (backTo_any (star_all rfl))) (comp_no rfl _ _ _)) fun _ _ _ q => ts_upd (G := gc P X) q⟩ else none
def dctIx (P : Par) (x : Str) : Bool := match slotOf x P.N with
  | some i => P.dct.contains i
  | none => false
/-- for .. in x, x a dict that stays -/
def mkKeys (tg : Expr) (x : Str) (p : Pos) : Option (CI P c tg (.Name x p)) :=
  match hx : slotOf x P.N with
  | none => none
  | some i => if h : visB c.sc x = true ∧ okName x = true then some ⟨fKeys i, fun X E o => ⟨fun pins s σ H Q I q => (pi_keys (pe_var (i := i) (by rw [o.nms]; exact slotOf_some hx) (by rw [o.scp]; exact visB_vis h.1) (okName_1 h.2).1 (okName_1 h.2).2)).run pins s σ H Q I (ev_keys (G := gc P X) q)⟩⟩ else none
/-- x[k], x a dict -/
def mkDget {a b : Expr} (pos : Pos) (A : CB P c a) (B : CB P c b) : Option (CE P c (.Subscript a b pos)) :=
  if h : isSlE b = false then some ⟨f2 gDget A.f B.f, fun X E o => PE.mono (pe_dget (by have := o.room.un; omega) (A.ok X E o) (B.ok X E o) (fun ov iv => sl_no h ov iv)) fun _ _ _ q => ev_dget (G := gc P X) q⟩ else none
def lockS {st : Stmt} (i : Nat) (A : CS P c st) : CS P c st := ⟨fun n => fLock i (A.f n), fun n X E B o => ps_lock (A.ok n X E B o)⟩
end
end KF
set_option maxHeartbeats 4000000
/-! KFM: x(lambda: ..), x the def that tells how the call ended. -/
namespace KF
open PySem PySem.Spec PyProof.Rows L2
/-! ### all but tables stay -/
theorem code_vol {G : GC} {Hf H : Hp} {oa : List (List Addr)} {τ : Tau} (g : Good G Hf oa τ H) {a : Addr} {o : HO} (h : H a = some o) (v : VolO oa a) : ∃ es, o = .dK es := by
  obtain ⟨l, hl, ha⟩ := v
  obtain ⟨n, hn, e⟩ := List.mem_iff_getElem.mp hl
  have hn' : n < τ.length := by rw [← g.tok.len]; exact hn
  have ob := g.tok.ob n l τ[n] (by rw [List.getElem?_eq_getElem hn, e]) (List.getElem?_eq_getElem hn')
  cases q : τ[n] with
  | town c r =>
    rw [q] at ob
    obtain ⟨tw, rs, rfl, _, e1, e2⟩ := ob
    rcases List.mem_cons.mp ha with rfl | ha
    · rw [e1] at h; cases h; exact ⟨_, rfl⟩
    · rcases List.mem_cons.mp ha with rfl | ha
      · rw [e2] at h; cases h; exact ⟨_, rfl⟩
      · cases ha
theorem Good.extN {G : GC} {Hf H H1 : Hp} {oa : List (List Addr)} {τ : Tau} (g : Good G Hf oa τ H) (e : LamX.ExtN H H1) (t : LamX.Tabs G.T H1) : Good G Hf oa τ H1 ∧ Post G.T Hf oa H Hf oa H1 := by
  refine ⟨⟨fun a o h => e a o (g.ex a o h) (g.nt h), g.tok.stay fun a v u h => ?_, t, g.vol, g.ntb⟩, .rfl', fun a o h _ n => e a o h n, fun _ _ _ _ _ => rfl, .rfl', fun _ z => .inl z, fun a o h n => ⟨o, e a o h n, n⟩⟩
  obtain ⟨es, rfl⟩ := code_vol g h v
  exact e a _ h (by intro ps z; cases z)
/-! ### the call -/
def lowP (P : Par) : Par := { P with k := P.kf }
theorem lam_ok {P : Par} {c : Ctx} {X : Cx} {E E1 : XK} (o : XOk P c X E1) (scope : Scope) (A : Around) (outer : List Env) (s : Shared) (H : Hp) (f c' : Addr) (hr : Room P.kf (A.deeper (LamX.lamEnv X scope s.heap.objs.size f c'))) :
    XOk (lowP P) ⟨scope, fun _ => false, false, c.xk⟩ (LamX.lamCx X A outer s H E scope f c') E :=
  ⟨rfl, o.nms, o.nd, rfl, hr, takes_of rfl rfl rfl rfl, passes_of rfl, (fun x z => by cases z), o.blt, o.cst, fun e he => ⟨(o.fns e he).nm, (o.fns e he).ex⟩, o.exs, Nat.le_refl _, (fun z => by cases z), o.xk⟩
section
variable {P : Par} {c : Ctx}
def noPar : Arguments := ⟨[], [], none, [], [], none, []⟩
def mkLam (x : Str) (body : Expr) (scope : Scope) (p lpos pos : Pos) (A : CE (lowP P) ⟨scope, fun _ => false, false, c.xk⟩ body) : Option (CE P c (.Call (.Name x p) [.Lambda noPar body scope lpos] [] pos)) :=
  if h : x = "_law_result" ∧ c.lam = true ∧ glB c.sc x = true ∧ LamX.lamSB c.sc scope = true then some ⟨fRes A.f, fun X E o => by
    obtain ⟨h1, h2, h3, h4⟩ := h
    subst h1
    have L := o.lam h2
    obtain ⟨cC, PT, t1, t2, t3, t4⟩ := L.tab
    obtain ⟨g, Ng, sg, bg, pg, dV, kV, doc, pm, cdv, ct, oc, an, od, osl, m1, m2, m3, m4, m5, m6, m7⟩ := L.m.res
    have hr : Room (P.kf + 2) X.A := o.room.mono L.m.two
    have hN0 : Ng[0]? = some ("call" : Str) := by
      have q := m6.pre
      cases Ng with
      | nil => cases q
      | cons y r =>
        have q : [y] = [("call" : Str)] := q
        cases q
        rfl
    have hv : Vis sg ("call" : Str) := (m6.par ("call" : Str) (by simp)).elim (fun q => .inl q) fun q => .inr (.inl q)
    refine PE.mono (LamX.pe_lamcall (T := P.T) (t := fun E => Ev (gc P X) E (RE (gc P X)) A.f) (k := P.kf) (o.gl h3) m1 m2 m3 m4 m5 m6 hN0 hv (m7 X rfl rfl rfl hr _) t2 t1 t3 t4 hr (by rw [o.scp]; exact LamX.lamS_by h4) rfl (fun _ _ _ _ _ => rfl) (fun A' outer s H E f c' hr' => A.ok _ E (lam_ok o scope A' outer s H f c' hr'))) fun σ H Q q => ?_
    obtain ⟨Hf, oa, ρ, τ, rel, a⟩ := q
    refine ⟨rel.good.tab, fun H1 eN tN => ?_⟩
    obtain ⟨g1, po⟩ := rel.good.extN eN tN
    refine ⟨Hf, oa, τ, A.f ρ, g1, fun E' Q' Hf1 H2 pu a' => ⟨Hf1, oa, ρ, τ, (rel.post po g1).post pu.post (g1.pure pu), a'⟩, ?_⟩
    have a2 := a.shift po
    unfold At at a2 ⊢
    unfold fRes at a2
    cases e : resM (A.f ρ) τ with
    | ok d t => rw [e] at a2; exact a2
    | exc c t =>
      exfalso
      unfold resM at e
      split at e <;> cases e
    | stuck => rw [e] at a2; exact a2⟩ else none
end
end KF
set_option maxHeartbeats 4000000
/-! KFO: calls with keywords, in the parameters' order. -/
namespace KF
open PySem PySem.Spec PyProof.Rows L2
section
variable {P : Par} {c : Ctx}
/-- the keywords' values -/
structure CK (P : Par) (c : Ctx) (kws : List Keyword) where
  f : Fa
  ks : List Str
  ok : ∀ X E, XOk P c X E → PK X kws (Ev (gc P X) E (RA (gc P X)) f)
  all : ∀ pos env, (backToKw pos (keywordEach kws env)).all (·.1.isSome) = true
  nms : ∀ pos env, (backToKw pos (keywordEach kws env)).filterMap (·.1) = ks
  non : ∀ pos env, (backToKw pos (keywordEach kws env)).any (·.1.isNone) = false
theorem PK.mono {X : Cx} {kws : List Keyword} {t t' : TA} (h : PK X kws t) (k : ∀ σ H Q, t' σ H Q → t σ H Q) : PK X kws t' := ⟨fun w pins s σ H Q I q => h.run w pins s σ H Q I (k σ H Q q)⟩
def mkKs (rec : (e : Expr) → Option (CE P c e)) : (kws : List Keyword) → Option (CK P c kws)
  | [] => some ⟨fNil, [], fun X E o => PK.mono pk_nil fun _ _ _ q => ev_nil q, fun _ _ => rfl, fun _ _ => rfl, fun _ _ => rfl⟩
  | ⟨some x, e, kp⟩ :: kws => match rec e, mkKs rec kws with
    | some A, some B => some ⟨fCons A.f B.f, x :: B.ks, fun X E o => PK.mono (pk_cons (A.ok X E o) (B.ok X E o)) fun _ _ _ q => ev_cons q, fun pos env => (B.all pos env : _), fun pos env => congrArg (List.cons x) (B.nms pos env), fun pos env => (B.non pos env : _)⟩
    | _, _ => none
  | _ => none
def appFa (j : Nat) (fa fk : Fa) : Fa := fun ρ => M.bnd (fa ρ) fun xs => if xs.length = j then M.bnd (fk ρ) fun ys => M.ret (xs ++ ys) else M.fail
theorem ev_callN {G : GC} {E : XK} {Φ : Nat → List D → M D} {id n j m : Nat} {fa fk : Fa} {σ : L2.St} {H : Hp} {Q : VK} (hm : n = j + m) (h : Ev G E (RE G) (fCall Φ id n (appFa j fa fk)) σ H Q) :
    tCallN j m (SpOf G (Φ id) n) (fun us ws => us ++ ws) E (Ev G E (RA G) fa) (Ev G E (RA G) fk) σ H Q := by
  obtain ⟨Hf, oa, ρ, τ, rel, a⟩ := h
  have a : At G E (RE G) (M.bnd (M.bnd (fa ρ) fun xs => if xs.length = j then M.bnd (fk ρ) fun ys => M.ret (xs ++ ys) else M.fail) fun ds => if ds.length = n then Φ id ds else M.fail) Hf oa τ H Q := a
  rw [bnd_assoc] at a
  refine ⟨Hf, oa, ρ, τ, rel, a.bnd fun xs τ1 vs H1 Hf1 oa1 e1 p1 g1 r1 a1 => ?_⟩
  by_cases lx : xs.length = j
  · rw [if_pos lx, bnd_assoc] at a1
    have rel1 := rel.post p1 g1
    refine ⟨Hf1, oa1, ρ, τ1, rel1, a1.bnd fun ys τ2 ws H2 Hf2 oa2 e2 p2 g2 r2 a2 => ?_⟩
    have a3 : At G E (RE G) (if (xs ++ ys).length = n then Φ id (xs ++ ys) else M.fail) Hf2 oa2 τ2 H2 Q := a2
    obtain ⟨hl, a4⟩ := At.ite a3
    rw [List.length_append] at hl
    have rr := (r1.mono p2.exf p2.oax).append r2
    exact ⟨by rw [RpA.length r1]; exact lx, by rw [RpA.length r2]; omega, by rw [RpA.length rr, List.length_append]; exact hl, Hf2, oa2, xs ++ ys, τ2, g2, rr, a4⟩
  · rw [if_neg lx] at a1
    exact a1.elim
theorem pe_callN0 {X : Cx} {CX : CXT} {k : Nat} {f : Addr} {fd : FuncData} {ps ks : List Str} {sp : Sp} {E : XK} {x : Str} {p pos : Pos} {kws : List Keyword} {tk : TA} {g : List Value → List Value → List Value} {gV : List V → List V → List V}
    (F : FnOk X.prog X.w X.K X.mg X.base CX k f fd ps sp) (hr : Room k X.A) (hg : Gl X x) (hm : X.mg x = some (.ref f)) (hk : PySem.W.keepIn X.K (.ref f) = true) (hb : KBn X.K fd ps 0 ks g gV) (hx : Passes CX X E) (hkw : PK X kws tk)
    (hall : (backToKw pos (keywordEach kws X.env)).all (·.1.isSome) = true) (hks : (backToKw pos (keywordEach kws X.env)).filterMap (·.1) = ks) (hdb : (x == ("__debug__" : Str)) = false)
    (hpl : ((backTo pos (starEach [] X.env)).any (·.1) || (backToKw pos (keywordEach kws X.env)).any (·.1.isNone)) = false) : PE X (.Call (.Name x p) [] kws pos) (tCallN 0 ks.length sp gV E tNil tk) := by
  refine ⟨fun pins s σ H Q I h => wpAny_Call_Name_kw (ld_glob I hg hm ?_ hdb)⟩
  refine PySem.W.callWith_KW0 (h₀ := X.base) I.ok.mod.kin hk hall (thn (hkw.run pos pins s σ H _ I h) fun ws s2 q => ?_) hpl
  obtain ⟨zs, H2, I2, rz, l1, l2, q2⟩ := q
  rw [hks]
  exact ⟨I2.kIn, run_fnN F hr hb hx I2 .nil rz l1 l2 q2⟩
def kwIn (P : Par) (x : Str) (n : Nat) : Bool := P.kw.any fun p => decide (p.1 = x) && decide (p.2 = n)
theorem kwIn_ok {x : Str} {n : Nat} (h : kwIn P x n = true) : (x, n) ∈ P.kw := by
  unfold kwIn at h
  obtain ⟨p, hp, q⟩ := List.any_eq_true.mp h
  rw [Bool.and_eq_true] at q
  obtain ⟨a, b⟩ := p
  have e1 : a = x := of_decide_eq_true q.1
  have e2 : b = n := of_decide_eq_true q.2
  subst e1 e2
  exact hp
/-- x(k = v, ..) -/
def mkCallK0 (x : Str) (p pos : Pos) {kws : List Keyword} (B : CK P c kws) : Option (CE P c (.Call (.Name x p) [] kws pos)) :=
  match hl : P.fns.lookup x with
  | none => none
  | some (id, ps) => if h : glB c.sc x = true ∧ okName x = true ∧ kwIn P x 0 = true ∧ B.ks = ps then some ⟨fCall P.Φ id ps.length (appFa 0 fNil B.f), fun X E o => ⟨fun pins s σ H Q I q => by
      have fi := o.fns (x, id, ps) (PySem.mem_of_lookup hl)
      obtain ⟨f, fd, h1, h2, h3, h4, h5⟩ := fi.ex
      have kb := h5 0 (kwIn_ok h.2.2.1)
      have e : (B.ks : List Str) = ps.drop 0 := h.2.2.2
      refine (pe_callN0 h4 (o.room.mono o.kle) (o.gl h.1) h1 h2 kb o.pass (B.ok X E o) (B.all _ _) ((B.nms _ _).trans e) (okName_1 h.2.1).1 (by rw [B.non]; rfl)).run pins s σ H Q I ?_
      exact ev_nil (ev_callN (m := ps.length) (Nat.zero_add _).symm q)⟩⟩ else none
/-- x(a, .., k = v, ..) -/
def mkCallK (x : Str) (p pos : Pos) {e : Expr} {es : List Expr} {kws : List Keyword} (A : CA P c (e :: es)) (B : CK P c kws) : Option (CE P c (.Call (.Name x p) (e :: es) kws pos)) :=
  match hl : P.fns.lookup x with
  | none => none
  | some (id, ps) => if h : glB c.sc x = true ∧ okName x = true ∧ starOk (e :: es) = true ∧ kwIn P x (e :: es).length = true ∧ B.ks = ps.drop (e :: es).length ∧ ps.length = (e :: es).length + (ps.drop (e :: es).length).length then some ⟨fCall P.Φ id ps.length (appFa (e :: es).length A.f B.f), fun X E o => ⟨fun pins s σ H Q I q => by
      have fi := o.fns (x, id, ps) (PySem.mem_of_lookup hl)
      obtain ⟨f, fd, h1, h2, h3, h4, h5⟩ := fi.ex
      obtain ⟨g1, g2, g3, g4, g5, g6⟩ := h
      have kb := h5 _ (kwIn_ok g4)
      have st := starOk_cons g3
      have sa : (backTo pos (starEach (e :: es) X.env)).any (·.1) = false := backTo_any (star_all g3)
      exact (pe_callN h4 (o.room.mono o.kle) (o.gl g1) h1 h2 kb o.pass (A.ok X E o) (B.ok X E o) (B.all _ _) ((B.nms _ _).trans g5) (okName_1 g2).1 (star_no st.1 es _) (by rw [B.non, sa]; rfl)).run pins s σ H Q I (ev_callN g6 q)⟩⟩ else none
end
end KF
set_option maxHeartbeats 4000000
/-! KFQ: a call of a def that a slot holds. -/
namespace KF
open PySem PySem.Spec PyProof.Rows L2
def dynId (ids : List (Nat × Nat)) (ρ : En) (i : Nat) : Option (Nat × Nat) := match ρ[i]? with
  | some (.fz (.fn id)) => (ids.lookup id).map fun n => (id, n)
  | _ => none
def fDyn (Φ : Nat → List D → M D) (ids : List (Nat × Nat)) (i : Nat) (fa : Fa) : Fe := fun ρ => match dynId ids ρ i with
  | some (id, n) => fCall Φ id n fa ρ
  | none => M.fail
theorem mem_lookupN : ∀ {l : List (Nat × Nat)} {k v : Nat}, l.lookup k = some v → (k, v) ∈ l
  | [], _, _, h => by cases h
  | (a, b) :: l, k, v, h => by
    rw [List.lookup_cons] at h
    split at h
    · rename_i e
      cases h
      have : k = a := by simpa using e
      rw [this]
      exact List.mem_cons_self
    · exact List.mem_cons_of_mem _ (mem_lookupN h)
theorem dynId_some {ids : List (Nat × Nat)} {ρ : En} {i id n : Nat} (h : dynId ids ρ i = some (id, n)) : ρ[i]? = some (.fz (.fn id)) ∧ (id, n) ∈ ids := by
  unfold dynId at h
  split at h
  · rename_i id' e
    obtain ⟨m, e1, e2⟩ := Option.map_eq_some_iff.mp h
    cases e2
    exact ⟨e, mem_lookupN e1⟩
  · cases h
def idsOf (P : Par) : List (Nat × Nat) := P.fns.map fun e => (e.2.1, e.2.2.length)
section
variable {P : Par} {c : Ctx}
def mkDyn (x : Str) (p pos : Pos) {e : Expr} {es : List Expr} (A : CA P c (e :: es)) : Option (CE P c (.Call (.Name x p) (e :: es) [] pos)) :=
  match hs : slotOf x P.N with
  | none => none
  | some i => if h : visB c.sc x = true ∧ okName x = true ∧ starOk (e :: es) = true then some ⟨fDyn P.Φ (idsOf P) i A.f, fun X E o => ⟨fun pins s σ H Q I q => by
      obtain ⟨Hf, oa, ρ, τ, rel, a⟩ := q
      unfold fDyn at a
      cases ed : dynId (idsOf P) ρ i with
      | none => rw [ed] at a; exact a.elim
      | some w =>
        obtain ⟨id, n⟩ := w
        rw [ed] at a
        obtain ⟨h1, h2⟩ := dynId_some ed
        obtain ⟨en, he, e2⟩ := List.mem_map.mp h2
        cases e2
        have fi := o.fns en he
        obtain ⟨f, fd, g1, g2, g3, g4, _⟩ := fi.ex
        have st := starOk_cons h.2.2
        obtain ⟨v, hv, rv⟩ := rel.fz i _ h1
        obtain ⟨f', ef, em⟩ := rp_fn.mp rv
        have em : X.mg (P.nm en.2.1) = some (.ref f') := em
        rw [fi.nm, g1] at em
        cases em
        subst ef
        exact (pe_callL (i := i) (f := f) (dvs := []) g4 (o.room.mono o.kle) (by rw [o.nms]; exact slotOf_some hs) (by rw [o.scp]; exact visB_vis h.1) g2 g3 .nil o.pass (A.ok X E o) (okName_1 h.2.1).1 (okName_1 h.2.1).2 (star_no st.1 es _) (backTo_any (star_all st.2))).run pins s σ H Q I ⟨hv, ev_call ⟨Hf, oa, ρ, τ, rel, a⟩⟩⟩⟩ else none
end
end KF
set_option maxHeartbeats 4000000
/-! KFR: dicts held by a slot: {..}, d[k] = v, d.get(k, x), {k: v for ..}, list(d.values()). -/
namespace KF
open PySem PySem.Spec PyProof.Rows L2
/-! ### {k: v for ..} -/
def dcF (t : Tg) (ft : Ft) (fk fv : Fe) (ρ : En) : List D → List D × List D → M (List D × List D)
  | [], acc => M.ret acc
  | d :: ds, acc => M.bnd (M.opt (bindD t d ρ)) fun ρ1 => M.bnd (noX (ft ρ1)) fun b => if b = true then M.bnd (noX (fk ρ1)) fun k => M.bnd (noX (fv ρ1)) fun v => M.bnd (M.opt (keyOf k)) fun q => if acc.1.length < SZ ∧ nodK acc.1 = true then dcF t ft fk fv ρ ds (putD q v acc.1 acc.2) else M.fail else dcF t ft fk fv ρ ds acc
def fDc (fi : En → M (List D)) (t : Tg) (ft : Ft) (fk fv : Fe) (vs : List Nat) : Fe := fun ρ => M.bnd (fi ρ) fun ds => if ds.length ≤ SZ then M.bnd (dcF t ft fk fv (wipeE ρ vs) ds ([], [])) fun p => M.ret (.dic p.1 p.2) else M.fail
section
variable {G : GC} {E : XK} {oa : List (List Addr)} {Hf H : Hp} {σ : L2.St} {ρ : En} {τ : Tau}
theorem dc_core' {J : It} {ds : List D} {t : Tg} {ft : Ft} {fk fv : Fe} {vs : List Nat} {E0 : XK} {R : List (List Addr) → Hp → Hp → KF.D → V → Prop} {Q : VK} {H1 Hf1 : Hp} {oa1 : List (List Addr)} {τ1 : Tau} {Dl : Addr} (rel : Rel G Hf1 oa1 ρ τ1 σ H1) (y : Yl G oa1 Hf1 J ds) (hs : ∀ k ∈ slotsT t, k ∈ vs) (hD : H1 Dl = none)
    (a : At G E R (M.bnd (dcF t ft fk fv (wipeE ρ vs) ds ([], [])) fun p => M.ret (.dic p.1 p.2)) Hf1 oa1 τ1 H1 Q)
    (fin : ∀ (p : List KF.D × List KF.D) τ' (es : List (Key × V)) H' Hf' oa', Post G.T Hf1 oa1 H1 Hf' oa' H' → Good G Hf' oa' τ' H' → H' Dl = some (.dK es) → Hf' Dl = none → ¬ Vol G.T oa' Dl → es.map (fun e => keyD e.1) = p.1 → RpA G oa' Hf' p.2 (es.map (·.2)) → At G E R (M.ret (.dic p.1 p.2)) Hf1 oa1 τ' H1 Q → Q (.ref Dl) H') :
    ∃ W : Nat → Nat → Hp → Prop, (∃ m, W 0 m (upd H1 Dl (.dK []))) ∧ ∀ i m H, W i m H →
      (J.stop i H ∧ Q (.ref Dl) H) ∨ (J.go i H ∧ ∃ Nx : Hp → Prop, (∀ H', Nx H' → ∃ m', m' < m ∧ W (i + 1) m' H') ∧ ∀ x H', J.yld i H x H' → gT G.K t x (L2.wipe σ vs) H' fun σ2 H2 => L2.wipe σ2 vs = L2.wipe σ vs ∧ Ev G E0 RT ft σ2 H2 fun b H3 =>
        if b = true then Ev G E0 (RE G) fk σ2 H3 fun y H4 => Ev G E0 (RE G) fv σ2 H4 fun z H5 => ∃ kvs k, y = kV k ∧ H5 Dl = some (.dK kvs) ∧ kvs.length < sizeLine ∧ Nx (upd H5 Dl (.dK (putK kvs k z))) else Nx H3) := by
  have pu0 := Pure.newO (o := .dK []) rel.good.ex hD
  refine ⟨fun i m H' => m = ds.length - i ∧ i ≤ ds.length ∧ ∃ Hf' oa' τ' acc es, Rel G Hf' oa' ρ τ' σ H' ∧ Post G.T Hf1 oa1 H1 Hf' oa' H' ∧ H' Dl = some (.dK es) ∧ Hf' Dl = none ∧ ¬ Vol G.T oa' Dl ∧ es.map (fun e => keyD e.1) = acc.1 ∧ RpA G oa' Hf' acc.2 (es.map (·.2)) ∧
      At G E R (M.bnd (dcF t ft fk fv (wipeE ρ vs) (ds.drop i) acc) fun p => M.ret (.dic p.1 p.2)) Hf1 oa1 τ' H1 Q,
    ⟨ds.length, by simp, Nat.zero_le _, Hf1, oa1, τ1, ([], []), [], rel.post pu0.post (rel.good.pure pu0), pu0.post, upd_same, rel.good.nfz hD, rel.good.nvol hD, rfl, rpa_nil.mpr rfl, a⟩, ?_⟩
  rintro i m H' ⟨rfl, hi, Hf', oa', τ', acc, es, r', p', e1, e2, e3, e4, e5, a'⟩
  have yi := y i Hf' H' oa' p'.exf r'.good.ex p'.oax
  by_cases hlt : i < ds.length
  · obtain ⟨go, yld⟩ := yi.1 hlt
    refine .inr ⟨go, _, fun H2 n2 => ⟨ds.length - (i + 1), by omega, n2⟩, fun x H2 hy => ?_⟩
    obtain ⟨Hf2, d, pu, ed, rx⟩ := yld x H2 hy
    have hd : ds.drop i = d :: ds.drop (i + 1) := by
      rw [List.drop_eq_getElem_cons hlt]
      rw [List.getElem?_eq_getElem hlt] at ed
      rw [Option.some.inj ed]
    rw [hd] at a'
    unfold dcF at a'
    rw [bnd_assoc] at a'
    have r2 := r'.post (pu.post (T := G.T) (oa := oa')) (r'.good.pure pu)
    have p2 := p'.tr (pu.post (oa := oa'))
    have d2 : H2 Dl = some (.dK es) := pu.exh _ _ e1
    have f2 : Hf2 Dl = none := (pu.fz _ _ e1).trans e2
    cases e : bindD t d (wipeE ρ vs) with
    | none => rw [e] at a'; exact False.elim a'
    | some ρ2 =>
      rw [e] at a'
      have a' : At G E R (M.bnd (M.bnd (noX (ft ρ2)) fun b => if b = true then M.bnd (noX (fk ρ2)) fun k => M.bnd (noX (fv ρ2)) fun v => M.bnd (M.opt (keyOf k)) fun q => if acc.1.length < SZ ∧ nodK acc.1 = true then dcF t ft fk fv (wipeE ρ vs) (ds.drop (i + 1)) (putD q v acc.1 acc.2) else M.fail else dcF t ft fk fv (wipeE ρ vs) (ds.drop (i + 1)) acc) fun p => M.ret (.dic p.1 p.2)) Hf1 oa1 τ' H1 Q := a'
      rw [bnd_assoc] at a'
      refine gt_ok t (r2.wipe vs) rx e fun σ3 r3 c3 => ⟨(wipe_out (σ := L2.wipe σ vs) (σ' := σ3) c3.len c3.out hs).trans (wipe_wipe σ vs), Hf2, oa', ρ2, τ', r3, a'.bnd0 fun b τ3 eb a3 v H3 Hf3 oa3 p3 g3 q3 => ?_⟩
      have q3 : v = b := q3
      subst q3
      have d3 := p3.keep _ _ d2 e3
      have f3 := (p3.fz _ _ d2 e3).trans f2
      have n3 := p3.nv d2 e3
      have r4 := r2.post p3 g3
      have p4 := p2.tr p3
      have w3 := (e5.mono pu.exf .rfl').mono p3.exf p3.oax
      cases v with
      | false => exact ⟨rfl, hlt, Hf3, oa3, τ3, acc, es, r4, p4, d3, f3, n3, e4, w3, a3⟩
      | true =>
        have a3 : At G E R (M.bnd (M.bnd (noX (fk ρ2)) fun k => M.bnd (noX (fv ρ2)) fun v => M.bnd (M.opt (keyOf k)) fun q => if acc.1.length < SZ ∧ nodK acc.1 = true then dcF t ft fk fv (wipeE ρ vs) (ds.drop (i + 1)) (putD q v acc.1 acc.2) else M.fail) fun p => M.ret (.dic p.1 p.2)) Hf1 oa1 τ3 H1 Q := a3
        rw [bnd_assoc] at a3
        refine ⟨Hf3, oa3, ρ2, τ3, r3.post p3 g3, a3.bnd0 fun k τ4 ey a4 vk H4 Hf4 oa4 p5 g5 q5 => ?_⟩
        have d4 := p5.keep _ _ d3 n3
        have f4 := (p5.fz _ _ d3 n3).trans f3
        have n4 := p5.nv d3 n3
        rw [bnd_assoc] at a4
        refine ⟨Hf4, oa4, ρ2, τ4, (r3.post p3 g3).post p5 g5, a4.bnd0 fun z τ5 ez a5 vz H5 Hf5 oa5 p7 g7 q7 => ?_⟩
        have d5 := p7.keep _ _ d4 n4
        have f5 := (p7.fz _ _ d4 n4).trans f4
        have n5 := p7.nv d4 n4
        rw [bnd_assoc] at a5
        obtain ⟨kq, ekq, a6⟩ := at_opt a5
        have a7 : At G E R (if acc.1.length < SZ ∧ nodK acc.1 = true then M.bnd (dcF t ft fk fv (wipeE ρ vs) (ds.drop (i + 1)) (putD kq z acc.1 acc.2)) fun p => M.ret (.dic p.1 p.2) else M.fail) Hf1 oa1 τ5 H1 Q := by
          by_cases c : acc.1.length < SZ ∧ nodK acc.1 = true
          · rw [if_pos c] at a6 ⊢; exact a6
          · rw [if_neg c] at a6 ⊢; exact a6
        obtain ⟨hz, a8⟩ := At.ite a7
        have hz2 := hz
        rw [← e4] at hz2
        have pr := put_rp (k := kq) q7 (nodK_ok hz2.2) ((w3.mono p5.exf p5.oax).mono p7.exf p7.oax)
        rw [e4] at pr
        have hl : es.length < sizeLine := by
          have := hz2.1
          rw [List.length_map] at this
          exact Nat.lt_of_lt_of_le this (sz_le (Nat.le_refl _))
        refine ⟨es, kq, key_v ekq (.inl q5 : Bw G oa4 Hf4 H4 k vk), d5, hl, rfl, hlt, Hf5, oa5, τ5, putD kq z acc.1 acc.2, putK es kq vz, ?_, ?_, upd_same, f5, n5, pr.1.symm, pr.2, a8⟩
        · have r6 := (r4.post p5 g5).post p7 g7
          refine ⟨⟨fun b o h => ?_, r6.good.tok.stay fun b vb u h => ?_, fun p hp => ?_, r6.good.vol, r6.good.ntb⟩, r6.len, r6.fz, fun k dk q => ?_, r6.dis⟩
          · rw [upd_ne (ne_of_none h f5)]; exact r6.good.ex b o h
          · rw [upd_ne (fun z => n5 (by rw [← z]; exact .inl vb))]; exact h
          · obtain ⟨ps, h1, h2, h3⟩ := r6.good.tab p hp
            refine ⟨ps, by rw [upd_ne (fun z => n5 (by rw [← z]; exact .inr (List.mem_map.mpr ⟨p, hp, rfl⟩)))]; exact h1, h2, fun pos cv hc => ?_⟩
            obtain ⟨c, h4, h5⟩ := h3 pos cv hc
            refine ⟨c, h4, ?_⟩
            rw [upd_ne (fun z => by rw [z, d5] at h5; cases h5)]
            exact h5
          · obtain ⟨w, h1, h2⟩ := r6.ow k dk q
            refine ⟨w, h1, ?_⟩
            obtain ⟨l, rfl⟩ := h2.ref
            have ne : l ≠ Dl := fun z => by
              obtain ⟨w0, h3, h4⟩ := rel.ow k dk q
              rw [h1] at h3; cases h3
              obtain ⟨u, hu⟩ := h4.at
              rw [z, hD] at hu; cases hu
            cases dk with
            | lst ds =>
              obtain ⟨l', vs, ew, h3, h4, h5, h6⟩ := h2
              cases ew
              exact ⟨_, vs, rfl, by rw [upd_ne ne]; exact h3, h4, h5, h6⟩
            | dic ks ds =>
              obtain ⟨l', vs, ew, h3, h4, h5, h6, h7⟩ := h2
              cases ew
              exact ⟨_, vs, rfl, by rw [upd_ne ne]; exact h3, h4, h5, h6, h7⟩
            | dnt ks ds =>
              obtain ⟨l', es, ep, xs, ws', ew, h3, h4, h5, h6, h7, h8, h9, h10, h11, h12, h13⟩ := h2
              cases ew
              exact ⟨_, es, ep, xs, ws', rfl, by rw [upd_ne ne]; exact h3, h4, h5, h6, h7, h8, h9, h10, h11, h12, h13⟩
            | _ => exact h2.elim
        · have p6 := (p4.tr p5).tr p7
          exact ⟨p6.exf, fun b o h n t => by rw [upd_ne (ne_of_none h hD)]; exact p6.keep b o h n t, @p6.fz, p6.oax, p6.new, fun b o h t => by
            rw [upd_ne (ne_of_none h hD)]; exact p6.per b o h t⟩
  · have e : i = ds.length := by omega
    subst e
    refine .inl ⟨yi.2 rfl, ?_⟩
    rw [List.drop_length] at a'
    exact fin acc τ' es H' Hf' oa' p' r'.good e1 e2 e3 e4 e5 (by simpa [dcF, bnd_ret] using a')
theorem ev_dcO {fi : En → M (List KF.D)} {t : Tg} {ft : Ft} {fk fv : Fe} {vs : List Nat} {Q : VK} {E0 : XK} (hs : ∀ k ∈ slotsT t, k ∈ vs) (h : EvO G E (fDc fi t ft fk fv vs) σ H Q) : tDc (Ev G E (RI G) fi) (gT G.K t) (Ev G E0 RT ft) (Ev G E0 (RE G) fk) (Ev G E0 (RE G) fv) vs σ H Q := by
  obtain ⟨Hf, oa, ρ, τ, rel, a⟩ := h
  refine ⟨Hf, oa, ρ, τ, rel, a.bnd fun ds τ1 J H1 Hf1 oa1 _ p1 g1 y a1 => ?_⟩
  obtain ⟨hl, a2⟩ := a1.ite
  intro Dl hD
  refine dc_core' (rel.post p1 g1) y hs hD a2 fun p τ' es H' Hf' oa' p' g' e1 e2 e3 e4 e5 a3 => ?_
  exact a3 (.ref Dl) H' Hf' oa' p' g' ⟨⟨Dl, es, rfl, e1, e2, e3, e4, e5⟩, fun l e => by cases e; exact p1.old (.of hD)⟩
end

theorem sw_trueD {kx vx : Expr} {gs : List Comprehension} {scope : Scope} {pos py : Pos} {y : Str} {l : Nat} {env : Env} (hk : env.scope.kind = .function) (hy : env.scope.names.lookup y = some .local) (hl : (py.line == pos.line) = true)
    (ha : (scope.names.any fun (n, k) => n == y && (k == .local || k == .cell)) = false) : swapsWith (.DictComp kx vx gs scope pos) (some (.Name y py)) l env = pure true := by
  have ky : env.kindOf y = some .local := hy
  have hb : env.blockKind = .function := by unfold Env.blockKind; rw [hk]; rfl
  unfold swapsWith
  simp only [hb, ky, ha, Expr.pos, hl]
  rfl
theorem ps_setDc {X : Cx} {i : Nat} {y : Str} {py : Pos} {kx vx tg iter : Expr} {ifs : List Expr} {scope : Scope} {own : List (Str × Nat)} {pos spos : Pos} {wi : TI} {g : TG} {tt : TT} {tk tv : TE} (hc : X.calm = true) (hN : X.N.Nodup) (hy : X.N[i]? = some y) (hyl : X.env.scope.names.lookup y = some .local)
    (hsw : swapsWith (.DictComp kx vx [⟨tg, iter, ifs, 0⟩] scope pos) (some (.Name y py)) spos.line X.env = pure true) (hi : PI X tg iter wi) (ok : BlkOk X.N X.env.scope scope own)
    (hg : ∀ (s : Shared) (H : Hp) (C : Addr) (cl : List (Str × Addr)) (fp : List Addr), PG (X.blk s H scope (compEnvC scope cl C X.env) fp) tg g) (ht : ∀ (s : Shared) (H : Hp) (C : Addr) (cl : List (Str × Addr)) (fp : List Addr), PTs (X.blk s H scope (compEnvC scope cl C X.env) fp) ifs tt)
    (hk : ∀ (s : Shared) (H : Hp) (C : Addr) (cl : List (Str × Addr)) (fp : List Addr), PE (X.blk s H scope (compEnvC scope cl C X.env) fp) kx tk)
    (he : ∀ (s : Shared) (H : Hp) (C : Addr) (cl : List (Str × Addr)) (fp : List Addr), PE (X.blk s H scope (compEnvC scope cl C X.env) fp) vx tv) (hs : ∀ x, foldedSetIterable iter X.env x = pure x) :
    PS X (.Assign [.Name y py] (.DictComp kx vx [⟨tg, iter, ifs, 0⟩] scope pos) spos) (tAsg (tDc wi g tt tk tv (own.map (·.2))) (gName i)) := by
  refine ⟨fun pins s σ H D I h => ?_⟩
  rw [exec_Assign_Name_used _ _ _ _ hsw]
  refine wpAny_bind (wpAny_standAt (wpAny_bind ?_))
  show wpAny _ X.A (do let _ ← comprehension (.DictComp kx vx [⟨tg, iter, ifs, 0⟩] scope pos) scope X.env (firstIterPos [⟨tg, iter, ifs, 0⟩] pos) newDict false (eval iter X.env) (some (assign (.Name y py) X.env))) _ _ s
  have h : tDc wi g tt tk tv (own.map (·.2)) σ H (fun x H1 => gName i x σ H1 D.nx) := h
  refine wpAny_bind (thn (dc_core (Qf := fun _ s' => SP X pins D .next s') hc hN I hi ok hg ht hk he hs h fun L C s' m H' I' q hn f => ?_) fun _ s' hq => wpAny_pure (wpAny_pure hq))
  show wpAny _ _ (assign (.Name y py) X.env (.ref L)) _ _ _
  refine wpAny_assign_Name (store_ok2 (v := V.ref L) I' hN hy (.inl hyl) rfl (fun s2 I2 ⟨a, sb, ha⟩ => ?_) (.inr hyl))
  obtain ⟨f0, f1, f2, f3, f4, f5⟩ := f
  have haC : C ≠ a := by
    rcases ha with z | z
    · rw [z]; exact f1
    · exact fun e => f4 y a z e.symm
  refine ⟨m, hn.sameBut sb haC, fun h3 sb3 => ?_⟩
  exact ⟨_, H', I2.turned (t' := s2.toks) (fun b o hb e => (sb3.2 b hb).trans e) f0 f1 f3 f4 f5, q⟩
section
variable {P : Par} {c : Ctx}
def mkSetDc {kx vx tg iter : Expr} {ifs : List Expr} {scope : Scope} (y : Str) (py pos spos : Pos) (L : CLc P c vx tg iter ifs scope) (K : CE P (blkCtx c scope) kx) : Option (CS P c (.Assign [.Name y py] (.DictComp kx vx [⟨tg, iter, ifs, 0⟩] scope pos) spos)) :=
  match h : slotOf y P.N with
  | none => none
  | some i => if hs : swLc c y py pos scope = true then some ⟨fun _ => fAsgO i (fDc L.fi L.t L.ft K.f L.fe ((ownOf P.N scope).map (·.2))), fun n X E B o => by
      obtain ⟨h1, h2, h3, h4⟩ := swLc_ok hs
      exact PS.mono (ps_setDc o.calm (by rw [o.nms]; exact o.nd) (by rw [o.nms]; exact slotOf_some h) (by rw [o.scp]; exact h2) (sw_trueD (by rw [o.scp]; exact h1) (by rw [o.scp]; exact h2) h3 h4) (L.okI X E o) (by rw [o.nms, o.scp]; exact L.blk)
        (fun s H C cl fp => L.okG _ _ (blk_ok o s H scope C cl fp)) (fun s H C cl fp => L.okT _ _ (blk_ok o s H scope C cl fp)) (fun s H C cl fp => K.ok _ _ (blk_ok o s H scope C cl fp)) (fun s H C cl fp => L.okE _ _ (blk_ok o s H scope C cl fp)) (set_no L.it _)) fun D σ H q => ev_dcO (G := gc P X) L.slots (ts_asgO (G := gc P X) q)⟩ else none
theorem sw_cellD {kx vx : Expr} {gs : List Comprehension} {scope : Scope} {pos py : Pos} {y : Str} {l : Nat} {env : Env} (hy : env.scope.names.lookup y = some .cell) : swapsWith (.DictComp kx vx gs scope pos) (some (.Name y py)) l env = pure false := by
  have ky : env.kindOf y = some .cell := hy
  unfold swapsWith
  simp only [ky, Expr.pos]
  have z : ∀ (a b c : Bool), (a && (some (NameKind.cell) == some NameKind.local) && b && c) = false := fun a b c => by cases a <;> rfl
  rw [z]
def isCellB (sc : Scope) (x : Str) : Bool := match sc.names.lookup x with
  | some .cell => true
  | _ => false
theorem isCellB_ok {sc : Scope} {x : Str} (h : isCellB sc x = true) : sc.names.lookup x = some .cell := by
  unfold isCellB at h
  split at h
  · assumption
  · cases h
def mkSetDcC {kx vx tg iter : Expr} {ifs : List Expr} {scope : Scope} (y : Str) (py pos spos : Pos) (L : CLc P c vx tg iter ifs scope) (K : CE P (blkCtx c scope) kx) : Option (CS P c (.Assign [.Name y py] (.DictComp kx vx [⟨tg, iter, ifs, 0⟩] scope pos) spos)) :=
  match h : slotL P c y with
  | none => none
  | some i => if hs : isCellB c.sc y = true then some ⟨fun _ => fAsgO i (fDc L.fi L.t L.ft K.f L.fe ((ownOf P.N scope).map (·.2))), fun n X E B o => by
      obtain ⟨h1, h2⟩ := slotL_ok h
      have hl := locB_loc h1
      exact PS.mono (ps_set (by rw [o.nms]; exact o.nd) (by rw [o.nms]; exact h2) (by rw [o.scp]; exact hl.1) (pe_dc o.calm (by rw [o.nms]; exact o.nd) (L.okI X E o) (by rw [o.nms, o.scp]; exact L.blk)
        (fun s H C cl fp => L.okG _ _ (blk_ok o s H scope C cl fp)) (fun s H C cl fp => L.okT _ _ (blk_ok o s H scope C cl fp)) (fun s H C cl fp => K.ok _ _ (blk_ok o s H scope C cl fp)) (fun s H C cl fp => L.okE _ _ (blk_ok o s H scope C cl fp)) (set_no L.it _)) (sw_cellD (by rw [o.scp]; exact isCellB_ok hs)) (hl.2.elim (fun q => .inl (o.fn y q)) fun q => .inr (by rw [o.scp]; exact q))) fun D σ H q => ev_dcO (G := gc P X) L.slots (ts_asgO (G := gc P X) q)⟩ else none
/-- {} -/
def mkSetD0 (x : Str) (px pos dpos : Pos) : Option (CS P c (.Assign [.Name x px] (.Dict [] [] dpos) pos)) :=
  match h : slotL P c x with
  | none => none
  | some i => some ⟨fun _ => fAsgO i (fC (.dic [] [])), fun n X E B o => PS.mono (ps_setK o h pe_dnewK rfl) fun D σ H q => ev_dnew (G := gc P X) (ts_asgO (G := gc P X) q)⟩
end
/-! ### list(d.values()) -/
def tLV (td : TE) : TE := fun σ H Q => td σ H fun x H1 => ∃ d kvs, x = .ref d ∧ H1 d = some (.dK kvs) ∧ ∀ q, H1 q = none → Q (.ref q) (upd H1 q (.lst (kvs.map (·.2))))
theorem pe_listVals {X : Cx} {o : Expr} {p pos apos mpos : Pos} {td : TE} (hc : X.calm = true) (hg : Gl X "list") (hm : X.mg "list" = none) (hd : PE X o td) (hbase : attributeBase o "values" X.env (eval o X.env) = eval o X.env) (hline : (apos.endLine == mpos.line) = true) :
    PE X (.Call (.Name "list" p) [.Call (.Attribute o "values" apos) [] [] mpos] [] pos) (tLV td) := by
  refine ⟨fun pins s σ H Q I h => ?_⟩
  refine wpAny_Call_Name_kw (ld_blt I hg hm (u := .type "list") (by first | rfl | decide +kernel) ?_ (by first | decide +kernel | decide) (by first | decide +kernel | decide))
  refine PySem.callWith_type1 (wpAny_Call_method0_late hbase hline (thn (hd.run pins s σ H _ I h) fun v s1 ⟨x, H1, I1, r1, a, kvs, ex, ha, q⟩ => ?_))
  subst ex
  obtain rfl : v = Value.ref a := r1
  obtain ⟨z, hsys, vs, rel, dof⟩ := (show ObjOk X.prog X.w H1 s1.heap a (.dK kvs) from I1.hok a _ ha)
  obtain ⟨ep, dat⟩ := dof.dictAt
  have dat' := dat
  obtain ⟨ob, es, ho, ex, hdat, hko, hpr, hnd⟩ := dat'
  refine ⟨"dict", "dict.values", F.plainAttrs_dict, F.slot_dict_values, F.type_dict_values, ⟨ob, ho, ex.1⟩, fun b e => ?_, Calls.callWith_builtin rfl (PySem.evalArgs_none ?_)⟩
  · cases e
    exact ⟨ob, ho, ex.2.1⟩
  refine call_meetsIn F.slot_dict_values ⟨ob, ho, ex.1⟩ F.entry_dict_values (F.args_dict_values_1 _) (meets_dict_values (mixKind X.prog X.w) a hsys) ⟨⟨vs, dof⟩, ?_⟩
  have k1 : ∀ b u, s1.heap.get? b = some u → (s1.heap.push { cls := .type "dict_values", data := .fields #[.ref a] }).get? b = some u := fun b u e => Heap.get?_push_of_some _ e
  have dat1 : (s1.heap.push { cls := .type "dict_values", data := .fields #[.ref a] }).DictAt (mixKind X.prog X.w) a vs ep := dat.keep k1
  have hl : kvs.length = vs.length := Paired.length rel
  have hsz : (s1.heap.push { cls := .type "dict_values", data := .fields #[.ref a] }).objs.size = s1.heap.objs.size + 1 := Heap.size_push _ _
  refine PySem.W.kdl_call (PySem.W.kdl_values (knd := mixKind X.prog X.w) (r := s1.heap.objs.size) (kvs := vs) (ep := ep)) (I1.ok.hd hc) ⟨⟨_, Heap.get?_push_size _ rfl, rfl, rfl⟩, dat1⟩ (by rw [← hl]; exact z) fun h' tk acc' c' hkeep hS hacc => ?_
  refine ⟨.ref (s1.heap.push { cls := .type "dict_values", data := .fields #[.ref a] }).objs.size, upd H1 (s1.heap.push { cls := .type "dict_values", data := .fields #[.ref a] }).objs.size (.lst (kvs.map (·.2))), I1.laid (fun b ob e => hkeep b ob (k1 b ob e)) (by rw [hsz]; exact Nat.le_succ _) (show ObjOk X.prog X.w _ _ _ (.lst (kvs.map (·.2))) from ⟨?_, acc'.toList, c', ?_, ?_⟩), rfl, q _ (I1.hok.fresh (by rw [hsz]; exact Nat.le_succ _))⟩
  · rw [List.length_map]; exact z
  · have el : acc'.toList.length = acc'.size := by simp
    refine vals_of_at (by rw [List.length_map, el, hacc.1, hl]) fun j x w h1 h2 => ?_
    obtain ⟨k, hky⟩ := hacc.2 j w (by rw [← Array.getElem?_toList]; exact h2)
    obtain ⟨x', e1, e2⟩ := KV.at' rel hky
    rw [List.getElem?_map, e1] at h1
    cases h1
    exact e2
  · rw [Array.toArray_toList]; exact hS
section
variable {G : GC} {E : XK} {σ : L2.St} {H : Hp}
theorem ev_LV {i : Nat} {Q : VK} (h : Ev G E (RE G) (fun ρ => M.bnd (M.opt (dicAt ρ i)) fun p => M.ret (.lst p.2)) σ H Q) : tLV (tVar i) σ H Q := by
  obtain ⟨Hf, oa, ρ, τ, rel, a⟩ := h
  obtain ⟨p, e, a⟩ := at_opt a
  have e := dicAt_some e
  obtain ⟨v, e1, o⟩ := rel.ow i _ e
  obtain ⟨l, es, rfl, h1, h2, h3, h4, h5⟩ := o
  refine ⟨.ref l, e1, l, es, rfl, h1, fun q hq => ?_⟩
  have pu := Pure.new (o := .lst (es.map (·.2))) rel.good.ex hq
  exact At.pure (R := RE G) a rel.good pu (rp_lst.mpr ⟨q, _, rfl, .inl upd_same, h5.mono pu.exf .rfl'⟩)
end
def fVals (i : Nat) : Fe := fun ρ => M.bnd (M.opt (dicAt ρ i)) fun p => M.ret (.lst p.2)
section
variable {P : Par} {c : Ctx}
def mkLV (x f m : Str) (p pf ap mp pos : Pos) : Option (CE P c (.Call (.Name f pf) [.Call (.Attribute (.Name x p) m ap) [] [] mp] [] pos)) :=
  match hs : slotOf x P.N with
  | none => none
  | some i => if h : f = "list" ∧ m = "values" ∧ glB c.sc f = true ∧ visB c.sc x = true ∧ okName x = true ∧ (ap.endLine == mp.line) = true then some ⟨fVals i, fun X E o => by
      obtain ⟨rfl, rfl, h1, h2, h3, h4⟩ := h
      exact PE.mono (pe_listVals o.calm (o.gl h1) (o.blt _ (by simp [blts])) (pe_var (i := i) (by rw [o.nms]; exact slotOf_some hs) (by rw [o.scp]; exact visB_vis h2) (okName_1 h3).1 (okName_1 h3).2) rfl h4) fun _ _ _ q => ev_LV (G := gc P X) q⟩ else none
/-- d[k] = v -/
def mkDput {k e : Expr} (x : Str) (p pos' pos : Pos) (K : CB P c k) (A : CE P c e) : Option (CS P c (.Assign [.Subscript (.Name x p) k pos'] e pos)) :=
  match hs : slotOf x P.N with
  | none => none
  | some i => if h : visB c.sc x = true ∧ okName x = true ∧ isCompE e = false then some ⟨fun _ => fDput i K.f A.f, fun n X E B o =>
      PS.mono (ps_dput (by have := o.units; omega) (pe_var (i := i) (by rw [o.nms]; exact slotOf_some hs) (by rw [o.scp]; exact visB_vis h.1) (okName_1 h.2.1).1 (okName_1 h.2.1).2) (K.ok X E o) (A.ok X E o) (comp_no h.2.2 _ _ _)) fun _ _ _ q => ts_dput (G := gc P X) q⟩ else none
/-- d.get(k, x) -/
def mkDget2 {k e : Expr} (x m : Str) (p ap cp : Pos) (K : CB P c k) (A : CE P c e) : Option (CE P c (.Call (.Attribute (.Name x p) m ap) [k, e] [] cp)) :=
  match hs : slotOf x P.N with
  | none => none
  | some i => if h : m = "get" ∧ visB c.sc x = true ∧ okName x = true ∧ isStar k = false ∧ isStar e = false ∧ (ap.endLine == cp.line) = true then some ⟨fDget2 i K.f A.f, fun X E o => by
      obtain ⟨rfl, h1, h2, h3, h4, h5⟩ := h
      have se : starEach [k, e] X.env = [(false, eval k X.env), (false, eval e X.env)] := by rw [star_no h3, star_no h4]; rfl
      refine PE.mono (pe_dget2 (by have := o.units; omega) (PE.mono (pe_var (i := i) (by rw [o.nms]; exact slotOf_some hs) (by rw [o.scp]; exact visB_vis h1) (okName_1 h2).1 (okName_1 h2).2) fun _ _ _ q => ev_bor (G := gc P X) (E := E) q) (K.ok X E o) (A.ok X E o) ⟨rfl, by rw [se]; rfl, h5, by rw [se]; rfl⟩) fun _ _ _ q => ev_dget2 (G := gc P X) q⟩ else none
end
end KF
set_option maxHeartbeats 4000000
/-! KFS: min(l), sorted(l) of data. -/
namespace KF
open PySem PySem.Spec PyProof.Rows L2
open PySem.W (dataLt minD alike AlikeAll min_list_data readsAll_at)
theorem toPy_inj (n : Nat) : ∀ {d e : D}, okd n d = true → okd n e = true → toPy d = toPy e → d = e := by
  induction n with
  | zero =>
    intro d e h1 h2 h
    cases d <;> first | (cases h1; done) | skip
    all_goals (cases e <;> first | (cases h2; done) | skip)
    all_goals (simp only [toPy] at h; first | rfl | (cases h; rfl) | cases h)
  | succ n ih =>
    have all : ∀ (l m : List D), l.all (okd n) = true → m.all (okd n) = true → toPys l = toPys m → l = m := by
      intro l
      induction l with
      | nil =>
        intro m _ _ h
        cases m with
        | nil => rfl
        | cons e m => rw [toPys, toPys] at h; cases h
      | cons d l ihl =>
        intro m h1 h2 h
        cases m with
        | nil => rw [toPys, toPys] at h; cases h
        | cons e m =>
          rw [List.all_cons, Bool.and_eq_true] at h1 h2
          rw [toPys, toPys] at h
          injection h with h3 h4
          rw [ih h1.1 h2.1 h3, ihl m h1.2 h2.2 h4]
    intro d e h1 h2 h
    cases d <;> first | (cases h1; done) | skip
    all_goals (cases e <;> first | (cases h2; done) | skip)
    all_goals (simp only [toPy] at h)
    all_goals first | rfl | (cases h; done) | skip
    all_goals first
      | (injection h with h; rw [h]; done)
      | (injection h with h; rw [all _ _ h1 h2 h])
theorem toPys_map : ∀ l : List D, toPys l = l.map toPy
  | [] => by rw [toPys]; rfl
  | d :: l => by rw [toPys, toPys_map l]; rfl
def minF (d : D) (ds : List D) : D := ds.foldl (fun a y => if dataLt (toPy y) (toPy a) = true then y else a) d
theorem minF_py : ∀ (ds : List D) (d : D), toPy (minF d ds) = minD (toPy d) (ds.map toPy)
  | [], d => rfl
  | y :: ds, d => by
    unfold minF minD
    rw [List.map_cons, List.foldl_cons, List.foldl_cons]
    have := minF_py ds (if dataLt (toPy y) (toPy d) = true then y else d)
    unfold minF minD at this
    rw [this]
    congr 1
    split <;> rfl
theorem minF_mem : ∀ (ds : List D) (d : D), minF d ds ∈ d :: ds
  | [], d => List.mem_cons_self
  | y :: ds, d => by
    unfold minF
    rw [List.foldl_cons]
    have := minF_mem ds (if dataLt (toPy y) (toPy d) = true then y else d)
    unfold minF at this
    rcases List.mem_cons.mp this with h | h
    · rw [h]
      split
      · exact List.mem_cons_of_mem _ List.mem_cons_self
      · exact List.mem_cons_self
    · exact List.mem_cons_of_mem _ (List.mem_cons_of_mem _ h)
/-- alike, none None -/
def alkB (l : List D) : Bool := (l.all fun d => l.all fun e => alike (toPy d) (toPy e)) && l.all fun d => match d with
  | .non => false
  | _ => true
theorem toPy_none {d : D} (n : Nat) (h : okd n d = true) (e : toPy d = .none) : d = .non := by
  cases d with
  | non => rfl
  | bl _ => rw [toPy] at e; cases e
  | int _ => rw [toPy] at e; cases e
  | str _ => rw [toPy] at e; cases e
  | tup _ => rw [toPy] at e; cases e
  | lst _ => rw [toPy] at e; cases e
  | _ => cases n <;> cases h
theorem alkB_ok {l : List D} (n : Nat) (hk : l.all (okd n) = true) (h : alkB l = true) : AlikeAll (l.map toPy) := by
  unfold alkB at h
  rw [Bool.and_eq_true] at h
  refine ⟨fun x hx y hy => ?_, fun x hx z => ?_⟩
  · obtain ⟨d, hd, rfl⟩ := List.mem_map.mp hx
    obtain ⟨e, he, rfl⟩ := List.mem_map.mp hy
    exact List.all_eq_true.mp (List.all_eq_true.mp h.1 d hd) e he
  · obtain ⟨d, hd, rfl⟩ := List.mem_map.mp hx
    have := toPy_none n (List.all_eq_true.mp hk d hd) z
    subst this
    have := List.all_eq_true.mp h.2 _ hd
    cases this
def rMinD (K : PySem.W.Frag) : List V → Hp → VK → Prop := fun xs H Q => ∃ (a : Addr) (vs : List V) (x : PyData) (ds : List PyData), xs = [.ref a] ∧ SqL K H a vs ∧ DpAll K H vs (x :: ds) ∧ AlikeAll (x :: ds) ∧ PyData.depthAll (x :: ds) ≤ 40 ∧ (∀ d ∈ x :: ds, d.canLay0 = true) ∧
  ∀ (i : Nat) (v : V) (e : PyData), vs[i]? = some v → (x :: ds)[i]? = some e → e = minD x ds → Q v H
theorem vals_get : ∀ {vs : List V} {us : List Value}, Vals vs us → ∀ {i : Nat} {u : Value}, us[i]? = some u → ∃ v, vs[i]? = some v ∧ RelV v u := by
  intro vs us r
  induction r with
  | nil => intro i u h; simp at h
  | cons r t ih =>
    intro i u h
    cases i with
    | zero => simp at h; subst h; exact ⟨_, rfl, r⟩
    | succ i => obtain ⟨v, h1, h2⟩ := ih (i := i) (by simpa using h); exact ⟨v, by simpa using h1, h2⟩
theorem call_minD {X : Cx} (hc : X.calm = true) (hu : X.A.units + 64 < cLine) : CallR X (.builtin "min") (rMinD X.K) := by
  intro pins s σ H xs us Q I r h
  obtain ⟨a, vs, x, ds, rfl, hs, hdp, hal, hdep, hcan, q⟩ := h
  obtain ⟨its, rv, hl, _⟩ := I.list hs
  rw [Vals.ref1 r]
  obtain ⟨as, ra⟩ := Dp.readsAll I (x :: ds) vs its hdp rv
  refine min_list_data (vs := its.toArray) (I.ok.hd hc) hl.isList (by simpa using ra) hal (by omega) fun i v h' tk bs hi hr hk => ?_
  have hi' : its[i]? = some v := by simpa using hi
  obtain ⟨xv, e1, e2⟩ := vals_get rv hi'
  obtain ⟨bs2, r2, hlt, hm, _⟩ := readsAll_at ra i v hi'
  refine ⟨xv, H, I.kept hk, e2, q i xv ((x :: ds).getD i .none) e1 (by rw [List.getD_eq_getElem?_getD, List.getElem?_eq_getElem hlt]; rfl) ?_⟩
  exact (PySem.Reads.unique (Reads.keeps hk r2) _ _ hr).1
def gMinL : List D → Option D := on1 fun d => match d with
  | .lst (d :: ds) => if (d :: ds).all (okd 31) = true ∧ alkB (d :: ds) = true then some (minF d ds) else none
  | _ => none
section
variable {G : GC}
theorem depth_all (n : Nat) : ∀ {l : List D}, l.all (okd n) = true → (∀ d ∈ l.map toPy, d.canLay0 = true) ∧ PyData.depthAll (l.map toPy) ≤ n + 1
  | [], _ => ⟨by simp, by simp [PyData.depthAll]⟩
  | d :: l, h => by
    rw [List.all_cons, Bool.and_eq_true] at h
    obtain ⟨h1, h2⟩ := okd_lay n d h.1
    obtain ⟨h3, h4⟩ := depth_all n (l := l) h.2
    refine ⟨fun e he => ?_, ?_⟩
    · rw [List.map_cons] at he
      rcases List.mem_cons.mp he with rfl | he
      · exact h1
      · exact h3 e he
    · rw [List.map_cons]
      simp only [PyData.depthAll]
      omega
theorem vr_minL : VRA G (rMinD G.K) gMinL := vra_1 fun {x d1 d Hf H oa Q} ex b e k => by
  cases d1 with
  | lst l =>
    cases l with
    | nil => cases e
    | cons d0 ds =>
      have e : (if (d0 :: ds).all (okd 31) = true ∧ alkB (d0 :: ds) = true then some (minF d0 ds) else none) = some d := e
      split at e
      · rename_i hc
        cases e
        obtain ⟨a, vs, rfl, h1, h2⟩ : ∃ a vs, x = .ref a ∧ SqL G.K H a vs ∧ RpA G oa Hf (d0 :: ds) vs := by
          rcases b with b | b
          · obtain ⟨a, xs, rfl, h1, h2⟩ := rp_lst.mp b
            exact ⟨a, xs, rfl, .inl (ex.rd h1), h2⟩
          · obtain ⟨a, xs, rfl, h1, h2, h3, h4⟩ := b
            exact ⟨a, xs, rfl, .inl (.of h1), h4⟩
        have hdp := rpa_dp (n := 31) hc.1 (h2.mono ex .rfl')
        rw [toPys_map] at hdp
        have hd := depth_all 31 hc.1
        refine ⟨a, vs, toPy d0, ds.map toPy, rfl, h1, hdp, alkB_ok 31 hc.1 hc.2, by have := hd.2; rw [List.map_cons] at this; omega, hd.1, fun i v ev hv he hm => ?_⟩
        have he : ((d0 :: ds).map toPy)[i]? = some ev := he
        rw [List.getElem?_map] at he
        obtain ⟨di, hdi, rfl⟩ := Option.map_eq_some_iff.mp he
        obtain ⟨v', hv', rv⟩ := h2.get hdi
        rw [hv] at hv'
        cases hv'
        rw [← minF_py] at hm
        have hmem := minF_mem ds d0
        have : di = minF d0 ds := toPy_inj 31 (List.all_eq_true.mp hc.1 di (List.mem_of_getElem? hdi)) (List.all_eq_true.mp hc.1 _ hmem) hm
        subst this
        exact k v Hf H (.rfl' ex) rv
      · cases e
  | _ => cases e
end
section
variable {P : Par} {c : Ctx}
/-- min(l) -/
def mkMinL {a : Expr} (x : Str) (p pos : Pos) (A : CAB P c [a]) : Option (CE P c (.Call (.Name x p) [a] [] pos)) :=
  if h : x = "min" ∧ glB c.sc x = true ∧ isStar a = false then some ⟨fN gMinL A.f, fun X E o => by
    obtain ⟨rfl, h1, h2⟩ := h
    exact PE.mono (pe_callB (call_minD o.calm o.units) (o.gl h1) (o.blt _ (by decide)) boot_min (A.ok X E o) (by decide) (by decide) (star_no h2 [] _) rfl) fun _ _ _ q => ev_callB (G := gc P X) vr_minL q⟩ else none
end
/-! ### sorted(l) -/
open PySem.W (dataLe EachIs AllAlike Sortable sorted_data)
def rSortD (K : PySem.W.Frag) : List V → Hp → VK → Prop := fun xs H Q => ∃ (a : Addr) (vs : List V) (ds : List PyData), xs = [.ref a] ∧ SqL K H a vs ∧ DpAll K H vs ds ∧ AllAlike ds ∧ Sortable ds ∧ (∀ d ∈ ds, d.depth ≤ 40) ∧
  ∀ q, H q = none → Q (.ref q) (upd H q (.lst (((vs.zip ds).mergeSort (dataLe false (fun b : V × PyData => b.2))).map (·.1))))
theorem each_of {h : Heap} : ∀ {vs : List V} {ds : List PyData} {us : List Value} {as : List Addr}, Vals vs us → ReadsAll h us ds as → EachIs (fun v (b : V × PyData) => RelV b.1 v) us (vs.zip ds) ∧ EachIs (fun v (b : V × PyData) => ∃ as, Reads h v b.2 as) us (vs.zip ds) ∧ (vs.zip ds).map (·.2) = ds ∧ (vs.zip ds).length = us.length
  | [], _, _, _, .nil, .nil => ⟨.nil, .nil, rfl, rfl⟩
  | v :: vs, _, _, _, .cons r t, .cons r2 t2 => by
    obtain ⟨h1, h2, h3, h4⟩ := each_of t t2
    exact ⟨.cons r h1, .cons ⟨_, r2⟩ h2, by rw [List.zip_cons_cons, List.map_cons, h3], by rw [List.zip_cons_cons, List.length_cons, List.length_cons, h4]⟩
theorem vals_each : ∀ {out : List Value} {bs : List (V × PyData)}, EachIs (fun v (b : V × PyData) => RelV b.1 v) out bs → Vals (bs.map (·.1)) out
  | _, _, .nil => .nil
  | _, _, .cons r t => .cons r (vals_each t)
theorem call_sortD {X : Cx} (hu : X.A.units + 64 < cLine) : CallR X (.builtin "sorted") (rSortD X.K) := by
  intro pins s σ H xs us Q I r h
  obtain ⟨a, vs, ds, rfl, hs, hdp, hal, hso, hdep, q⟩ := h
  obtain ⟨its, rv, hl, hz⟩ := I.list hs
  rw [Vals.ref1 r]
  obtain ⟨as, ra⟩ := Dp.readsAll I ds vs its hdp rv
  obtain ⟨e1, e2, e3, e4⟩ := each_of rv ra
  have hlen : its.length = vs.length := (Vals.length rv).symm
  refine sorted_data (vs := its) (bs := vs.zip ds) (enc := fun b : V × PyData => b.2) (R := fun v (b : V × PyData) => RelV b.1 v) hl.isList e1 e2 (by rw [e3]; exact hal) (by rw [e3]; exact hso) (by rw [e4, hlen]; exact hz) (fun b hb => ?_) fun out ho hE => ?_
  · have : b.2 ∈ ds := by rw [← e3]; exact List.mem_map.mpr ⟨b, hb, rfl⟩
    have := hdep _ this
    omega
  · obtain ⟨ep, he'⟩ := PyProof.Rows.sortedAll_at s.heap its out.toArray
    have vo := vals_each hE
    refine ⟨.ref _, upd H (s.heap.objs.size + 1) (.lst (((vs.zip ds).mergeSort (dataLe false (fun b : V × PyData => b.2))).map (·.1))), I.laid (t' := s.toks) (fun _ _ => PyProof.Rows.sortedAll_old) (Nat.le_succ _) ⟨?_, out, ep, vo, he'⟩, rfl, q _ (I.hok.fresh (Nat.le_succ _))⟩
    rw [Vals.length vo, ho, e4, hlen]
    exact hz
def sortF (l : List D) : List D := l.mergeSort fun a b => !dataLt (toPy b) (toPy a)
/-- all tuples with an item -/
def tupB (l : List D) : Bool := l.all fun d => match d with
  | .tup (_ :: _) => true
  | _ => false
def intB (l : List D) : Bool := l.all fun d => match d with
  | .int _ => true
  | _ => false
def gSortL : List D → Option D := on1 fun d => match d with
  | .lst l => if l.all (okd 31) = true ∧ alkB l = true ∧ (tupB l = true ∨ intB l = true) then some (.lst (sortF l)) else none
  | _ => none
theorem sortable_of {l : List D} (h : tupB l = true ∨ intB l = true) : Sortable (l.map toPy) := by
  rcases h with h | h
  · refine .inl fun d hd => ?_
    obtain ⟨e, he, rfl⟩ := List.mem_map.mp hd
    have := List.all_eq_true.mp h e he
    split at this
    · rename_i x r
      rw [toPy, toPys]
      exact ⟨_, _, rfl⟩
    · cases this
  · refine .inr fun d hd => ?_
    obtain ⟨e, he, rfl⟩ := List.mem_map.mp hd
    have := List.all_eq_true.mp h e he
    split at this
    · rw [toPy]
      exact And.intro (fun z => nomatch z) (fun xs z => nomatch z)
    · cases this
section
variable {G : GC}
theorem rpa_zip {oa : List (List Addr)} {Hf : Hp} : ∀ {l : List D} {vs : List V}, RpA G oa Hf l vs → (l.zip vs).map (·.1) = l ∧ (∀ p ∈ l.zip vs, Rp G oa Hf p.1 p.2) ∧ (l.zip vs).map (fun p => (p.2, toPy p.1)) = vs.zip (l.map toPy)
  | [], vs, h => by rw [rpa_nil] at h; subst h; exact ⟨rfl, by simp, rfl⟩
  | d :: l, vs, h => by
    obtain ⟨v, r, rfl, h1, h2⟩ := rpa_cons.mp h
    obtain ⟨e1, e2, e3⟩ := rpa_zip h2
    refine ⟨by rw [List.zip_cons_cons, List.map_cons, e1], fun p hp => ?_, by rw [List.zip_cons_cons, List.map_cons, e3, List.map_cons, List.zip_cons_cons]⟩
    rw [List.zip_cons_cons] at hp
    rcases List.mem_cons.mp hp with rfl | hp
    · exact h1
    · exact e2 p hp
theorem rpa_of {oa : List (List Addr)} {Hf : Hp} : ∀ {z : List (D × V)}, (∀ p ∈ z, Rp G oa Hf p.1 p.2) → RpA G oa Hf (z.map (·.1)) (z.map (·.2))
  | [], _ => rpa_nil.mpr rfl
  | p :: z, h => rpa_cons.mpr ⟨p.2, z.map (·.2), rfl, h p List.mem_cons_self, rpa_of fun q hq => h q (List.mem_cons_of_mem _ hq)⟩
theorem vr_sortL : VRA G (rSortD G.K) gSortL := vra_1 fun {x d1 d Hf H oa Q} ex b e k => by
  cases d1 with
  | lst l =>
    have e : (if l.all (okd 31) = true ∧ alkB l = true ∧ (tupB l = true ∨ intB l = true) then some (D.lst (sortF l)) else none) = some d := e
    split at e
    · rename_i hc
      cases e
      obtain ⟨a, vs, rfl, h1, h2⟩ : ∃ a vs, x = .ref a ∧ SqL G.K H a vs ∧ RpA G oa Hf l vs := by
        rcases b with b | b
        · obtain ⟨a, xs, rfl, h1, h2⟩ := rp_lst.mp b
          exact ⟨a, xs, rfl, .inl (ex.rd h1), h2⟩
        · obtain ⟨a, xs, rfl, h1, h2, h3, h4⟩ := b
          exact ⟨a, xs, rfl, .inl (.of h1), h4⟩
      have hdp := rpa_dp (n := 31) hc.1 (h2.mono ex .rfl')
      rw [toPys_map] at hdp
      have hal := alkB_ok 31 hc.1 hc.2.1
      refine ⟨a, vs, l.map toPy, rfl, h1, hdp, fun x hx y hy => hal.1 x hx y hy, sortable_of hc.2.2, fun y hy => ?_, fun q hq => ?_⟩
      · obtain ⟨e, he, rfl⟩ := List.mem_map.mp hy
        have := (okd_lay 31 e (List.all_eq_true.mp hc.1 e he)).2
        omega
      · obtain ⟨z1, z2, z3⟩ := rpa_zip h2
        have s1 : ((l.zip vs).mergeSort fun a b => !dataLt (toPy b.1) (toPy a.1)).map (·.1) = sortF l := by
          rw [List.map_mergeSort (s := fun a b => !dataLt (toPy b) (toPy a)) (fun a _ b _ => rfl), z1]
          rfl
        have s2 : ((l.zip vs).mergeSort fun a b => !dataLt (toPy b.1) (toPy a.1)).map (fun p => (p.2, toPy p.1)) = (vs.zip (l.map toPy)).mergeSort (dataLe false (fun b : V × PyData => b.2)) := by
          rw [← z3]
          exact List.map_mergeSort (r := fun a b : D × V => !dataLt (toPy b.1) (toPy a.1)) (s := dataLe false (fun b : V × PyData => b.2)) (f := fun p : D × V => (p.2, toPy p.1)) (fun a _ b _ => rfl)
        rw [← s2, List.map_map]
        have rp := rpa_of (G := G) (oa := oa) (Hf := Hf) (z := (l.zip vs).mergeSort fun a b => !dataLt (toPy b.1) (toPy a.1)) fun p hp => z2 p (List.mem_mergeSort.mp hp)
        rw [s1] at rp
        have pu := Pure.new (o := .lst (((l.zip vs).mergeSort fun a b => !dataLt (toPy b.1) (toPy a.1)).map (·.2))) ex hq
        exact k _ _ _ pu (rp_lst.mpr ⟨q, _, rfl, .inl upd_same, rp.mono pu.exf .rfl'⟩)
    · cases e
  | _ => cases e
end
section
variable {P : Par} {c : Ctx}
/-- sorted(l) -/
def mkSortL {a : Expr} (x : Str) (p pos : Pos) (A : CAB P c [a]) : Option (CE P c (.Call (.Name x p) [a] [] pos)) :=
  if h : x = "sorted" ∧ glB c.sc x = true ∧ isStar a = false then some ⟨fN gSortL A.f, fun X E o => by
    obtain ⟨rfl, h1, h2⟩ := h
    exact PE.mono (pe_callB (call_sortD o.units) (o.gl h1) (o.blt _ (by decide)) boot_sorted (A.ok X E o) (by decide) (by decide) (star_no h2 [] _) rfl) fun _ _ _ q => ev_callB (G := gc P X) vr_sortL q⟩ else none
end
end KF
set_option maxHeartbeats 4000000
/-! KFT: a > b of data, sorted(t) of a tuple of ints. -/
namespace KF
open PySem PySem.Spec PyProof.Rows L2
open PySem.W (dataLt alike rcGt_alike)
def rGtD (K : PySem.W.Frag) : R2 := fun x y H Q => ∃ d e, Dp K H x d ∧ Dp K H y e ∧ alike d e = true ∧ d ≠ .none ∧ d.depth ≤ 40 ∧ Q (.bl (dataLt e d)) H
theorem op_gtD {X : Cx} (hu : X.A.units + 64 < cLine) : OpR X (compareOp .Gt) (rGtD X.K) := by
  intro pins s σ H x y v u Q I rx ry h
  obtain ⟨d, e, hd, he, ha, hn, hdep, q⟩ := h
  obtain ⟨as, r1⟩ := Dp.reads I d x v hd rx
  obtain ⟨bs, r2⟩ := Dp.reads I e y u he ry
  have R := rcGt_alike d e X.A s v u as bs r1 r2 ha hn (by have := Nat.min_le_left d.depth e.depth; omega)
  have z : wpAny (model X.prog X.w) X.A (compareOp .Gt v u) (EP X pins σ Q) X.xe s := R X.prog X.w X.xe (EP X pins σ Q) ⟨.bl _, H, I, rfl, q⟩
  exact z
def gGtD (a b : D) : Option D := if okd 31 a = true ∧ okd 31 b = true ∧ alike (toPy a) (toPy b) = true ∧ isNon a = false then some (.bl (dataLt (toPy b) (toPy a))) else none
theorem okd_up : ∀ (n : Nat) {d : D}, okd n d = true → okd (n + 1) d = true := by
  intro n
  induction n with
  | zero =>
    intro d h
    cases d <;> first | rfl | exact h | cases h
  | succ n ih =>
    intro d h
    cases d with
    | tup l =>
      have h : l.all (okd n) = true := h
      show l.all (okd (n + 1)) = true
      rw [List.all_eq_true] at h ⊢
      exact fun x hx => ih (h x hx)
    | lst l =>
      have h : l.all (okd n) = true := h
      show l.all (okd (n + 1)) = true
      rw [List.all_eq_true] at h ⊢
      exact fun x hx => ih (h x hx)
    | _ => exact h
section
variable {G : GC}
theorem vr_gtD : VR2 G (rGtD G.K) gGtD := by
  intro x y d1 d2 d Hf H oa Q ex r1 r2 e k
  unfold gGtD at e
  split at e
  · rename_i h
    cases e
    refine ⟨_, _, bw_dp ex (okd_up 31 h.1) r1, bw_dp ex (okd_up 31 h.2.1) r2, h.2.2.1, fun z => ?_, ?_, k _ Hf H (.rfl' ex) (rp_bl.mpr rfl)⟩
    · have := toPy_none 31 h.1 z
      subst this
      have := h.2.2.2
      cases this
    · have := (okd_lay 31 d1 h.1).2
      omega
  · cases e
end
def gGtA : D → D → Option D := fun a b => (gGtI a b).or (gGtD a b)
def rSortTI (K : PySem.W.Frag) : List V → Hp → VK → Prop := fun xs H Q => ∃ (a : Addr) (ns : List Int), xs = [.ref a] ∧ SqT K H a (ns.map V.int) ∧ ns.length < 64 ∧
    ∀ (ys : List Int) (p : Addr), ys.Perm ns → ys.Pairwise (· ≤ ·) → H p = none → Q (.ref p) (upd H p (.lst (ys.map V.int)))
theorem call_sortTI {X : Cx} : CallR X (.builtin "sorted") (rSortTI X.K) := by
  intro pins s σ H xs us Q I r q
  obtain ⟨a, ns, ex, hd, h64, q⟩ := q
  subst ex
  obtain ⟨u, eu, rx⟩ := vals1 r
  subst eu
  cases rx
  obtain ⟨its, rv, ⟨o, ho, hc, n, hdat⟩, hz⟩ := I.tuple hd
  have hS : IntsAre its ns := rv.ints
  have hal : its.length = ns.length := hS.length
  refine Calls.call_function_entry PyProof.Rows.kind_sorted PyProof.Rows.plain_sorted PyProof.Rows.entry_sorted (PyProof.Rows.args_sorted1 _) ?_
  unfold Builtin.«sorted»
  refine wpAny_bind (m := checkCount "sorted" 1 1 _) (wpAny_pure ?_)
  refine wpAny_bind (wpAny_collect_seq (A := X.A.in1) a (T := "tuple") (.inr rfl) ho hc hdat (fun h' hk => ?_) (by rw [List.size_toArray, hal, sizeLine_eq]; omega))
  have I1 : Inv X pins σ H { s with heap := h', toks := s.toks } := I.kept hk
  refine wpAny_bind (wpAny_newList ?_ (by simp; rw [hal, sizeLine_eq]; omega))
  have hoL : (h'.push (seqObj "list" its.toArray 0)).get? h'.objs.size = some (seqObj "list" its.toArray 0) := Heap.get?_push_size _ rfl
  show wpAny _ _ _ _ _ { s with heap := h'.push (seqObj "list" its.toArray 0), toks := s.toks }
  refine wpAny_bind (wpAny_holding (wpAny_call_entry PyProof.Rows.slot_list_sort ⟨_, hoL, rfl⟩ PyProof.Rows.entry_list_sort
    (PyProof.Rows.list_sort_tree (s := { s with heap := h'.push (seqObj "list" its.toArray 0), toks := s.toks }) hoL hS (by rw [hal]; exact h64) fun out ys g1 g2 g3 => ⟨_, rfl, ?_⟩) (PyProof.Rows.args_list_sort _)))
  obtain ⟨e', he'⟩ := PyProof.Rows.sortedHeap_at (vs := its) (out := out) hoL
  have hlen : (ys.map V.int).length ≤ sizeLine := by
    rw [List.length_map, g2.length_eq]
    exact Nat.le_trans (Nat.le_of_lt h64) (by decide)
  refine wpAny_pure ⟨_, rfl, .ref h'.objs.size, upd H h'.objs.size (.lst (ys.map V.int)), I1.laid (t' := s.toks) (fun b u e => ?_) (Nat.le_refl _)
    (show ObjOk X.prog X.w _ _ _ (.lst (ys.map V.int)) from ⟨hlen, out.toList, e', vals_of_ints g1, by rw [Array.toArray_toList]; exact he'⟩), rfl, q ys _ g2 g3 (I1.hok.fresh (Nat.le_refl _))⟩
  have hb : b < h'.objs.size := Heap.lt_size e
  rw [PyProof.Rows.sortedHeap_old (Nat.ne_of_lt hb) (by rw [size_push']; exact Nat.lt_succ_of_lt hb)]
  exact Heap.get?_push_of_some _ e
/-- ints in order -/
def insS (a : Int) : List Int → List Int
  | [] => [a]
  | b :: l => if a ≤ b then a :: b :: l else b :: insS a l
def srtS : List Int → List Int
  | [] => []
  | a :: l => insS a (srtS l)
theorem insS_perm (a : Int) : ∀ l : List Int, (insS a l).Perm (a :: l)
  | [] => .refl _
  | b :: l => by
    unfold insS
    split
    · exact .refl _
    · exact ((insS_perm a l).cons b).trans (.swap a b l)
theorem srtS_perm : ∀ l : List Int, (srtS l).Perm l
  | [] => .refl _
  | a :: l => (insS_perm a (srtS l)).trans ((srtS_perm l).cons a)
theorem insS_pw (a : Int) : ∀ {l : List Int}, l.Pairwise (· ≤ ·) → (insS a l).Pairwise (· ≤ ·)
  | [], _ => by simp [insS]
  | b :: l, h => by
    unfold insS
    rw [List.pairwise_cons] at h
    split
    · rename_i c
      refine List.pairwise_cons.mpr ⟨fun x hx => ?_, List.pairwise_cons.mpr h⟩
      rcases List.mem_cons.mp hx with rfl | hx
      · exact c
      · have := h.1 x hx; omega
    · rename_i c
      refine List.pairwise_cons.mpr ⟨fun x hx => ?_, insS_pw a h.2⟩
      rcases List.mem_cons.mp ((insS_perm a l).mem_iff.mp hx) with rfl | hx
      · omega
      · exact h.1 x hx
theorem srtS_pw : ∀ l : List Int, (srtS l).Pairwise (· ≤ ·)
  | [] => .nil
  | a :: l => insS_pw a (srtS_pw l)
theorem pw_perm_eq : ∀ {a b : List Int}, a.Perm b → a.Pairwise (· ≤ ·) → b.Pairwise (· ≤ ·) → a = b := fun {a b} h h1 h2 => h.eq_of_pairwise (fun x y _ _ p q => by omega) h1 h2
def gSortT : List D → Option D := on1 fun d => match d with
  | .tup l => (intsD l).bind fun ns => if ns.length < 64 then some (.lst ((srtS ns).map .int)) else none
  | _ => none
section
variable {G : GC}
theorem vr_sortT : VRA G (rSortTI G.K) gSortT := vra_1 fun {x d1 d Hf H oa Q} ex b e k => by
  cases d1 with
  | tup l =>
    have e : ((intsD l).bind fun ns => if ns.length < 64 then some (D.lst ((srtS ns).map .int)) else none) = some d := e
    obtain ⟨ns, e1, e2⟩ := Option.bind_eq_some_iff.mp e
    split at e2
    · rename_i h64
      cases e2
      obtain ⟨a, xs, rfl, h1, h2⟩ := bw_tup b
      have el : l = ns.map .int := intsD_some e1
      subst el
      have ev := h2.ints
      subst ev
      refine ⟨a, ns, rfl, ex.t h1, h64, fun ys p g1 g2 hp => ?_⟩
      have : ys = srtS ns := pw_perm_eq (g1.trans (srtS_perm ns).symm) g2 (srtS_pw ns)
      subst this
      have pu := Pure.new (o := .lst ((srtS ns).map V.int)) ex hp
      exact k _ _ _ pu (rp_lst.mpr ⟨p, _, rfl, .inl upd_same, RpA.of_ints⟩)
    · cases e2
  | _ => cases e
end
section
variable {P : Par} {c : Ctx}
/-- sorted(t) -/
def mkSortT {a : Expr} (x : Str) (p pos : Pos) (A : CAB P c [a]) : Option (CE P c (.Call (.Name x p) [a] [] pos)) :=
  if h : x = "sorted" ∧ glB c.sc x = true ∧ isStar a = false then some ⟨fN gSortT A.f, fun X E o => by
    obtain ⟨rfl, h1, h2⟩ := h
    exact PE.mono (pe_callB call_sortTI (o.gl h1) (o.blt _ (by decide)) boot_sorted (A.ok X E o) (by decide) (by decide) (star_no h2 [] _) rfl) fun _ _ _ q => ev_callB (G := gc P X) vr_sortT q⟩ else none
/-- a > b of data -/
def mkGtDT {a b : Expr} (pos : Pos) (A : CB P c a) (B : CB P c b) : Option (CT P c (.Compare a [.Gt] [b] pos)) :=
  if h : isSetE b = false then some ⟨fB (f2 gGtD A.f B.f), fun X E o => PT.mono (pt_cmpR (op_gtD o.units) (A.ok X E o) (B.ok X E o) (mark_no h .Gt)) fun _ _ _ q => ev_op (G := gc P X) vr_gtD (ev_B q)⟩ else none
end
end KF
set_option maxHeartbeats 4000000
/-! KFU: min(a, b) of data. -/
namespace KF
open PySem PySem.Spec PyProof.Rows L2
open PySem.W (dataLt minD alike AlikeAll readsAll_at cmpIn_lt iter_tupleW moved_old argBest_fold readsAll_atA readsAll_len reads_keeps)
section
variable {prog : Program} {w : World} {A : Around} {E : Value → Shared → Prop} {s : Shared}
theorem call_min_twoH {a b : Value} {Q : Value → Shared → Prop}
    (h : wpAny (model prog w) A.in1 (pyIter (.ref s.heap.objs.size)) (fun it s₂ => ∃ I fp wr G n P St H bt, it = .ref I ∧ WalksS prog w A.in1 I fp wr G n P St ∧ St 0 s₂ ∧ (∀ b ∈ fp, b < s₂.heap.objs.size) ∧ 0 < n ∧
      (∀ b o, H.get? b = some o → b ∉ wr) ∧ (∀ b o, H.get? b = some o → s₂.heap.get? b = some o) ∧ CmpIn prog w A.in1 .Lt H P bt ∧ ∀ v s', P (argBest bt (n - 1)) v → Moved wr G s₂ s' → Q v s') E
      { s with heap := s.heap.push { cls := .type "tuple", data := .seq #[a, b] } }) :
    wpAny (model prog w) A (call (.builtin "min") [a, b]) Q E s := by
  have hname : (toString "min" ++ toString ".loop" : String) = "min.loop" := by decide
  refine call_function_tree F.kind_min F.plain_min F.entry_min (F.args_min2 _ _) ?_
  show wpAny _ A.in1 (Builtin.Builtins.bindParams "min" ["key", "default"] 0 ⟨[], []⟩ >>= _) _ _ s
  refine wpAny_bind (wpAny_of_eq (show Builtin.Builtins.bindParams "min" ["key", "default"] 0 ⟨[], []⟩ = pure [none, none] from rfl) ?_)
  show wpAny _ A.in1 (newTuple [a, b] >>= _) _ _ s
  refine wpAny_bind (wpAny_newObj_type ?_)
  refine wpAny_bind (wpAny_mono h (fun it s₂ h₂ => ?_) fun _ _ e => e)
  obtain ⟨I, fp, wr, G, n, P, St, H, bt, rfl, W, hst, hfp, hn, hw, hkeep, hcmp, hQ⟩ := h₂
  refine wpAny_bind (wpAny_newObj_type ?_)
  have hSf : s₂.heap.objs.size ∉ fp := fun hm => Nat.lt_irrefl _ (hfp _ hm)
  rw [hname]
  refine wpAny_pure ⟨plainId_quiet F.plain_min_loop _, codeAny_min_loop_firstH W H hw bt hcmp s₂.heap.objs.size hSf (fresh_in hkeep) _ hn (fun b o e => Heap.get?_push_of_some _ (hkeep b o e)) (W.frame 0 s₂ _ s₂.toks hst (Nat.le_refl _) fun b _ o e => Heap.get?_push_of_some _ e) (Heap.get?_push_size _ rfl) fun v s' hP hm => ?_⟩
  exact hQ v s' hP (Moved.drop_new (tk := s₂.toks) hm (Nat.le_refl _))
theorem min_two_data {a b : Value} {x y : PyData} {as : List Addr} {Q : Value → Shared → Prop} (hh : A.handled = none) (hr : ReadsAll s.heap [a, b] [x, y] as) (ha : AlikeAll [x, y]) (hu : A.units + 1 + PyData.depthAll [x, y] < cLine)
    (h : ∀ (i : Nat) v h' tk bs, [a, b][i]? = some v → Reads h' v (minD x [y]) bs → (∀ b o, s.heap.get? b = some o → h'.get? b = some o) → Q v { s with heap := h', toks := tk }) :
    wpAny (model prog w) A (call (.builtin "min") [a, b]) Q E s := by
  have k1 : ∀ b' o, s.heap.get? b' = some o → (s.heap.push { cls := .type "tuple", data := .seq #[a, b] }).get? b' = some o := fun b' o e => Heap.get?_push_of_some _ e
  have hT : (s.heap.push { cls := .type "tuple", data := .seq #[a, b] }).IsTuple s.heap.objs.size #[a, b] := ⟨_, Heap.get?_push_size _ rfl, rfl, 0, rfl⟩
  have hr' : ∃ as', ReadsAll (s.heap.push { cls := .type "tuple", data := .seq #[a, b] }) (#[a, b] : Array Value).toList [x, y] as' := by
    cases hr with
    | cons r1 t =>
      cases t with
      | cons r2 t2 =>
        cases t2
        exact ⟨_, .cons (reads_keeps k1 r1) (.cons (reads_keeps k1 r2) .nil)⟩
  obtain ⟨as', hr'⟩ := hr'
  refine call_min_twoH (iter_tupleW (A := A.in1) (s := { s with heap := s.heap.push { cls := .type "tuple", data := .seq #[a, b] } }) hh hT fun s₂ e W st hfp hw hk => ?_)
  refine ⟨_, _, _, _, _, _, _, _, _, rfl, W, st, hfp, Nat.succ_pos 1, hw, hk, cmpIn_lt (A := A.in1) (s := { s with heap := s.heap.push { cls := .type "tuple", data := .seq #[a, b] } }) hr' ha (by show A.units + 1 + _ < _; exact hu), fun v s' hP m => ?_⟩
  obtain ⟨h', tk, rfl, hk'⟩ := moved_old e rfl m
  obtain ⟨bs, r, _, _, _⟩ := readsAll_atA hr' _ v hP
  have e2 : _ = minD x [y] := (argBest_fold dataLt PyData.none x [y] 1 (Nat.le_refl _)).2
  exact h _ v h' tk bs (by simpa using hP) (reads_keeps hk' (by rw [← e2]; exact r)) fun b' o e => hk' b' o (k1 b' o e)
end
def rMin2D (K : PySem.W.Frag) : List V → Hp → VK → Prop := fun xs H Q => ∃ (v w : V) (x y : PyData), xs = [v, w] ∧ Dp K H v x ∧ Dp K H w y ∧ AlikeAll [x, y] ∧ PyData.depthAll [x, y] ≤ 40 ∧
  (minD x [y] = x → Q v H) ∧ (minD x [y] = y → Q w H)
theorem call_min2D {X : Cx} (hc : X.calm = true) (hu : X.A.units + 64 < cLine) : CallR X (.builtin "min") (rMin2D X.K) := by
  intro pins s σ H xs us Q I r h
  obtain ⟨v, w', x, y, rfl, d1, d2, hal, hdep, q1, q2⟩ := h
  obtain ⟨u1, u2, rfl, r1, r2⟩ := vals2 r
  obtain ⟨as, ra⟩ := Dp.readsAll I [x, y] [v, w'] [u1, u2] (.cons d1 (.cons d2 .nil)) (.cons r1 (.cons r2 .nil))
  refine min_two_data (I.ok.hd hc) ra hal (by omega) fun i u h' tk bs hi hr hk => ?_
  obtain ⟨bs2, rr, _, _, _⟩ := readsAll_at ra i u hi
  have eq := (PySem.Reads.unique (Reads.keeps hk rr) _ _ hr).1
  match i, hi with
  | 0, hi =>
    have e : u1 = u := by simpa using hi
    subst e
    exact ⟨v, H, I.kept hk, r1, q1 (by simpa using eq.symm)⟩
  | 1, hi =>
    have e : u2 = u := by simpa using hi
    subst e
    exact ⟨w', H, I.kept hk, r2, q2 (by simpa using eq.symm)⟩
  | i + 2, hi => exact absurd hi (by simp)
def gMin2D : List D → Option D := on2 fun a b => match a, b with
  | .tup l, .tup m => if okd 31 (.tup l) = true ∧ okd 31 (.tup m) = true ∧ alkB [.tup l, .tup m] = true then some (if dataLt (toPy (.tup m)) (toPy (.tup l)) = true then .tup m else .tup l) else none
  | _, _ => none
section
variable {G : GC}
theorem vr_min2D : VRA G (rMin2D G.K) gMin2D := vra_2 fun {x y d1 d2 d Hf H oa Q} ex b1 b2 e k => by
  cases d1 with
  | tup l =>
    cases d2 with
    | tup m =>
      have e : (if okd 31 (.tup l) = true ∧ okd 31 (.tup m) = true ∧ alkB [.tup l, .tup m] = true then some (if dataLt (toPy (.tup m)) (toPy (.tup l)) = true then D.tup m else D.tup l) else none) = some d := e
      split at e
      · rename_i h
        cases e
        have hall : [D.tup l, D.tup m].all (okd 31) = true := by simp only [List.all_cons, List.all_nil, h.1, h.2.1, Bool.and_self]
        have hal := alkB_ok 31 hall h.2.2
        have hd := (depth_all 31 hall).2
        have em : minD (toPy (.tup l)) [toPy (.tup m)] = if dataLt (toPy (.tup m)) (toPy (.tup l)) = true then toPy (.tup m) else toPy (.tup l) := rfl
        have r1 : Rp G oa Hf (.tup l) x := b1.elim id fun z => z.elim
        have r2 : Rp G oa Hf (.tup m) y := b2.elim id fun z => z.elim
        refine ⟨x, y, toPy (.tup l), toPy (.tup m), rfl, bw_dp ex (okd_up 31 h.1) b1, bw_dp ex (okd_up 31 h.2.1) b2, hal, by
          have hd : PyData.depthAll [toPy (.tup l), toPy (.tup m)] ≤ 31 + 1 := hd
          omega, fun z => ?_, fun z => ?_⟩
        · refine k x Hf H (.rfl' ex) ?_
          rw [em] at z
          split
          · rename_i c
            rw [if_pos c] at z
            rw [toPy_inj 31 h.2.1 h.1 z]
            exact r1
          · exact r1
        · refine k y Hf H (.rfl' ex) ?_
          rw [em] at z
          split
          · exact r2
          · rename_i c
            rw [if_neg c] at z
            rw [toPy_inj 31 h.1 h.2.1 z]
            exact r2
      · cases e
    | _ => cases e
  | _ => cases e
end
section
variable {P : Par} {c : Ctx}
/-- min(a, b) of tuples -/
def mkMin2D {a b : Expr} (x : Str) (p pos : Pos) (A : CAB P c [a, b]) : Option (CE P c (.Call (.Name x p) [a, b] [] pos)) :=
  if h : x = "min" ∧ glB c.sc x = true ∧ starOk [a, b] = true then some ⟨fN gMin2D A.f, fun X E o => by
    obtain ⟨rfl, h1, h2⟩ := h
    have st := starOk_cons h2
    exact PE.mono (pe_callB (call_min2D o.calm o.units) (o.gl h1) (o.blt _ (by decide)) boot_min (A.ok X E o) (by decide) (by decide) (star_no st.1 [b] _) (backTo_any (star_all st.2))) fun _ _ _ q => ev_callB (G := gc P X) vr_min2D q⟩ else none
end
end KF
set_option maxHeartbeats 4000000
/-! KFF: the compiler, assembled. -/
namespace KF
open PySem PySem.Spec PyProof.Rows L2
structure Rec (P : Par) where
  E : (c : Ctx) → (e : Expr) → Option (CE P c e)
  T : (c : Ctx) → (e : Expr) → Option (CT P c e)
  L : (c : Ctx) → (e : Expr) → Option (CE (lowP P) c e)
section
variable {P : Par}
def recB (r : Rec P) (c : Ctx) : (e : Expr) → Option (CB P c e)
  | .Name x pos => orElse' (mkBor x pos) ((r.E c (.Name x pos)).map toB')
  | e => (r.E c e).map toB'
def stepI (r : Rec P) (c : Ctx) : (tg e : Expr) → Option (CI P c tg e)
  | .Tuple elts kk tpos, .Call (.Name x p) [a, b] [] pos => orElse' ((mkArgs (r.E c) [a, b]).bind fun A => mkZip2 x p pos A) ((r.E c (.Call (.Name x p) [a, b] [] pos)).map mkItA)
  | .Tuple elts kk tpos, .Call (.Name x p) [a, b, d] [] pos => orElse' ((mkArgs (r.E c) [a, b, d]).bind fun A => mkZip3 x p pos A) ((r.E c (.Call (.Name x p) [a, b, d] [] pos)).map mkItA)
  | .Tuple elts kk tpos, .Call (.Name x p) [a] [] pos => orElse' ((mkArgs (r.E c) [a]).bind fun A => mkEnumA x p pos A) ((r.E c (.Call (.Name x p) [a] [] pos)).map mkItA)
  | tg, .Call (.Name x p) [a, b] [] pos => orElse' ((mkArgs (r.E c) [a, b]).bind fun A => mkRng2 x p pos A) ((r.E c (.Call (.Name x p) [a, b] [] pos)).map mkItA)
  | tg, .Call (.Name x p) [a] [] pos => orElse' ((mkArgs (r.E c) [a]).bind fun A => mkRng1 x p pos A) ((r.E c (.Call (.Name x p) [a] [] pos)).map mkItA)
  | tg, .Name x p => if dctIx P x = true then mkKeys tg x p else (r.E c (.Name x p)).map mkItA
  | tg, e => (r.E c e).map mkItA
def lcOf (r : Rec P) (c : Ctx) (elt tg iter : Expr) (ifs : List Expr) (scope : Scope) : Option (CLc P c elt tg iter ifs scope) :=
  (stepI r c tg iter).bind fun I => (mkTg (P := P) (c := blkCtx c scope) tg).bind fun G => (mkIfs (r.T (blkCtx c scope)) ifs).bind fun T => (r.E (blkCtx c scope) elt).bind fun A => mkCLc elt tg iter ifs scope I G T A
def stepIsX (r : Rec P) (c : Ctx) (x : Str) (p pos : Pos) (a : Expr) (T : Str) (p2 : Pos) : Option (CE P c (.Call (.Name x p) [a, .Name T p2] [] pos)) :=
  if c.xk = true then (r.E c a).bind fun A => mkIsX x p pos A T p2 else none
def stepCall (r : Rec P) (c : Ctx) (pos : Pos) : (f : Expr) → (es : List Expr) → Option (CE P c (.Call f es [] pos))
  | .Name x p, [] => mkCall0 x p pos
  | .Name x p, [.Lambda ⟨[], [], none, [], [], none, []⟩ body scope lpos] => (r.L ⟨scope, fun _ => false, false, c.xk⟩ body).bind fun A => mkLam x body scope p lpos pos A
  | .Name x p, [a, .Name T p2] => orElse' (orElse' (stepIsX r c x p pos a T p2) ((recB r c a).bind fun A => mkIsi x p pos A T p2)) (orElse' ((mkArgsB (recB r c) [a, .Name T p2]).bind fun A => mkBlt x p pos A) ((mkArgs (r.E c) [a, .Name T p2]).bind fun A => mkCall x p pos A))
  | .Name x p, [.Call (.Name y p2) [a] [] pos2] => orElse' ((recB r c a).bind fun A => mkSS x y p pos p2 pos2 A) (orElse' ((mkArgsB (recB r c) [.Call (.Name y p2) [a] [] pos2]).bind fun A => mkBlt x p pos A) ((mkArgs (r.E c) [.Call (.Name y p2) [a] [] pos2]).bind fun A => mkCall x p pos A))
  | .Name x p, [.Call (.Name y p2) [a, b, d] [] pos2] => orElse' ((mkArgs (r.E c) [a, b, d]).bind fun A => mkLZ x y p pos p2 pos2 A) (orElse' ((mkArgsB (recB r c) [.Call (.Name y p2) [a, b, d] [] pos2]).bind fun A => mkBlt x p pos A) ((mkArgs (r.E c) [.Call (.Name y p2) [a, b, d] [] pos2]).bind fun A => mkCall x p pos A))
  | .Name x p, e :: es => orElse' ((mkArgs (r.E c) (e :: es)).bind fun A => mkCall x p pos A) ((mkArgsB (recB r c) (e :: es)).bind fun A => mkBlt x p pos A)
  | .Attribute (.Name x p) m ap, [a] => (recB r c a).bind fun A => mkIdx x m p ap pos A
  | .Attribute (.Subscript (.Name x p) (.Constant (.str k) j p2) p3) m ap, [a, d] => (r.E c a).bind fun A => (r.E c d).bind fun Z => mkRest x k m p p2 p3 ap pos j A Z
  | _, _ => none
def stepDyn (r : Rec P) (c : Ctx) (pos : Pos) : (f : Expr) → (es : List Expr) → Option (CE P c (.Call f es [] pos))
  | .Name x p, e :: es => (mkArgs (r.E c) (e :: es)).bind fun A => mkDyn x p pos A
  | _, _ => none
def stepDct (r : Rec P) (c : Ctx) (pos : Pos) : (f : Expr) → (es : List Expr) → Option (CE P c (.Call f es [] pos))
  | .Name f pf, [.Call (.Attribute (.Name x p) m ap) [] [] mp] => if dctIx P x = true then mkLV x f m p pf ap mp pos else none
  | .Attribute (.Name x p) m ap, [k, e] => if dctIx P x = true then (recB r c k).bind fun K => (r.E c e).bind fun A => mkDget2 x m p ap pos K A else none
  | _, _ => none
def stepMin (r : Rec P) (c : Ctx) (pos : Pos) : (f : Expr) → (es : List Expr) → Option (CE P c (.Call f es [] pos))
  | .Name x p, [a, b] => if x = "min" ∧ P.dct.isEmpty = false then (mkArgsB (recB r c) [a, b]).bind fun A => mkMin2D x p pos A else none
  | .Name x p, [.Name y py] => if x = "min" ∨ x = "sorted" then (mkArgsB (recB r c) [.Name y py]).bind fun A => orElse' (mkMinL x p pos A) (mkSortT x p pos A) else none
  | .Name x p, [a] => if x = "min" ∨ x = "sorted" then (mkArgsB (recB r c) [a]).bind fun A => orElse' (mkMinL x p pos A) (mkSortL x p pos A) else none
  | _, _ => none
def stepTown (c : Ctx) (pos : Pos) : (a b : Expr) → Option (CE P c (.Subscript a b pos))
  | .Name x p, .Constant (.str k) j p2 => mkCount x k p p2 pos j
  | _, _ => none
def stepSub (r : Rec P) (c : Ctx) (a : Expr) (pos : Pos) : (b : Expr) → Option (CE P c (.Subscript a b pos))
  | .Slice none none (some (.UnaryOp .USub (.Constant (.int i) k p1) p2)) p3 => (recB r c a).bind fun A => mkRev i k p1 p2 p3 pos A
  | .Slice lo hi none p2 => (recB r c a).bind fun A => (mkPart (r.E c) lo).bind fun L => (mkPart (r.E c) hi).map fun U => mkSl p2 pos A L U
  | b => (recB r c a).bind fun A => (recB r c b).bind fun B => mkIx pos A B
def isDct (P : Par) : Expr → Bool
  | .Name x _ => dctIx P x
  | _ => false
def stepE (r : Rec P) (c : Ctx) : (e : Expr) → Option (CE P c e)
  | .Name x pos => mkName x pos
  | .Constant (.int i) k pos => some (mkInt i k pos)
  | .Constant (.bool i) k pos => some (mkBl i k pos)
  | .Constant .none k pos => some (mkNon k pos)
  | .Constant (.str i) k pos => some (mkStr i k pos)
  | .BinOp a op b pos => (recB r c a).bind fun A => (recB r c b).bind fun B => mkBin op pos A B
  | .UnaryOp .USub a pos => (recB r c a).map fun A => mkNeg pos A
  | .UnaryOp .Not a pos => (r.E c a).map fun A => mkNotV pos A
  | .BoolOp op es pos => mkBoolV op pos (r.E c) es
  | .Compare a [op] [b] pos => (recB r c a).bind fun A => (recB r c b).bind fun B => mkCmp op pos A B
  | .Compare a [op, op'] [b, d] pos => (recB r c a).bind fun A => (recB r c b).bind fun B => (recB r c d).bind fun C => mkChain op op' pos A B C
  | .IfExp t a b pos => (r.T c t).bind fun C => (r.E c a).bind fun A => (r.E c b).map fun B => mkIf pos C A B
  | .Call f es [] pos => orElse' (stepMin r c pos f es) (orElse' (stepCall r c pos f es) (orElse' (stepDyn r c pos f es) (stepDct r c pos f es)))
  | .Call (.Name x p) [] (k :: ks) pos => (mkKs (r.E c) (k :: ks)).bind fun B => mkCallK0 x p pos B
  | .Call (.Name x p) (a :: as) (k :: ks) pos => (mkArgs (r.E c) (a :: as)).bind fun A => (mkKs (r.E c) (k :: ks)).bind fun B => mkCallK x p pos A B
  | .Subscript a b pos => if isDct P a = true then (recB r c a).bind fun A => (recB r c b).bind fun B => mkDget pos A B else orElse' (stepTown c pos a b) (stepSub r c a pos b)
  | .Dict [some (.Constant (.str a) j1 p1), some (.Constant (.str b) j2 p2)] [.Constant (.int z) j3 p3, .Dict [] [] p4] pos => mkTnew a b z j1 j2 j3 p1 p2 p3 p4 pos
  | .Tuple es k pos => (mkArgs (r.E c) es).map fun A => mkTup k pos A
  | .List es pos => (mkArgs (r.E c) es).map fun A => mkLst pos A
  | .ListComp elt [⟨tg, iter, ifs, n⟩] scope pos => if h : n = 0 then (lcOf r c elt tg iter ifs scope).map fun L => (by rw [h]; exact mkLc pos L) else none
  | _ => none
def stepT (r : Rec P) (c : Ctx) : (e : Expr) → Option (CT P c e)
  | .UnaryOp .Not a pos => (r.T c a).map fun A => mkNotT pos A
  | .BoolOp op es pos => (mkBoolT op pos (r.T c) es).map ofW
  | .Compare (.Name x p1) [.Gt] [.Name y p2] pos => if x = "first" ∧ y = "row" then (recB r c (.Name x p1)).bind fun A => (recB r c (.Name y p2)).bind fun B => mkGtDT pos A B else (recB r c (.Name x p1)).bind fun A => (recB r c (.Name y p2)).bind fun B => mkCmpT .Gt pos A B
  | .Compare a [op] [b] pos => (recB r c a).bind fun A => (recB r c b).bind fun B => mkCmpT op pos A B
  | .Compare a [op, op'] [b, d] pos => (recB r c a).bind fun A => (recB r c b).bind fun B => (recB r c d).bind fun C => mkChainT op op' pos A B C
  | e => (recB r c e).bind mkTru
def recsN : Nat → (P : Par) → Rec P
  | 0, P => ⟨fun _ _ => none, fun _ _ => none, fun _ _ => none⟩
  | n + 1, P => ⟨stepE (recsN n P), stepT (recsN n P), stepE (recsN n (lowP P))⟩
def recs (P : Par) (n : Nat) : Rec P := recsN n P

variable {c : Ctx}
def ownIx (P : Par) (x : Str) : Bool := match slotOf x P.N with
  | some i => P.own.contains i
  | none => false
def lockIf (iter : Expr) {st : Stmt} (A : CS P c st) : CS P c st := match iter with
  | .Name y _ => if dctIx P y = true then (match slotOf y P.N with
    | some i => lockS i A
    | none => A) else A
  | _ => A
def stepAsg1 (r : Rec P) (c : Ctx) (x : Str) (px pos : Pos) : (e : Expr) → Option (CS P c (.Assign [.Name x px] e pos))
  | .List es lpos => if ownIx P x = true then (mkArgs (r.E c) es).bind fun A => mkSetO x px pos lpos A else (r.E c (.List es lpos)).bind fun A => mkSet x px pos A
  | .ListComp elt [⟨tg, iter, ifs, n⟩] scope lpos => if h : n = 0 then ((lcOf r c elt tg iter ifs scope).bind fun L => (by rw [h]; exact mkSetLc x px lpos pos L)).map (lockIf iter) else none
  | .DictComp kx vx [⟨tg, iter, ifs, n⟩] scope lpos => if h : n = 0 then (if dctIx P x = true then (lcOf r c vx tg iter ifs scope).bind fun L => (r.E (blkCtx c scope) kx).bind fun K => (by rw [h]; exact orElse' (mkSetDc x px lpos pos L K) (mkSetDcC x px lpos pos L K)) else none) else none
  | .Dict [] [] dpos => if dctIx P x = true then mkSetD0 x px pos dpos else (r.E c (.Dict [] [] dpos)).bind fun A => mkSet x px pos A
  | .Dict ks vs dpos => if dctIx P x = true then (mkPs (r.E c) ks vs).bind fun A => mkSetD x px pos dpos A else (r.E c (.Dict ks vs dpos)).bind fun A => mkSet x px pos A
  | .Name y py => if ownIx P y = true then mkMove x px pos y py else (r.E c (.Name y py)).bind fun A => mkSet x px pos A
  | .Call (.Attribute (.Name y p) m ap) [.Constant (.int i0) k p0] [] cp => orElse' ((mkTg (P := P) (c := c) (.Name x px)).bind fun G => mkPop0 G y m i0 k p ap p0 cp pos) ((r.E c (.Call (.Attribute (.Name y p) m ap) [.Constant (.int i0) k p0] [] cp)).bind fun A => mkSet x px pos A)
  | e => (r.E c e).bind fun A => mkSet x px pos A
def swpT (c : Ctx) (tg e : Expr) : Option (PLift (∀ env : Env, env.scope = c.sc → swappedStores [tg] e env = pure none)) := match tg, e with
  | .Tuple ts k p, .Tuple vs k2 p2 => if h : swp c.sc ts vs = some none then some ⟨fun env he => swp_ok (by rw [he]; exact h)⟩ else none
  | tg, e => if h : isTupE e = false then some ⟨fun env _ => swap_no h env⟩ else none
def stepAsgT (r : Rec P) (c : Ctx) (pos : Pos) : (tg e : Expr) → Option (CS P c (.Assign [tg] e pos))
  | .Tuple [.Name x px, .Name y py] kt pt, .Tuple [a, .List es lpos] k2 pt2 => if ownIx P y = true then (r.E c a).bind fun A => (mkArgs (r.E c) es).bind fun L => orElse' (mkParO x y px py kt pt k2 pt2 pos lpos A L) (mkAsgTO x y px py kt pt k2 pt2 pos lpos A L) else orElse' ((mkArgs (r.E c) [a, .List es lpos]).bind fun A => mkPar2 x y px py kt pt k2 pt2 pos A)
      ((mkTg (P := P) (c := c) (.Tuple [.Name x px, .Name y py] kt pt)).bind fun G => (r.E c (.Tuple [a, .List es lpos] k2 pt2)).bind fun A => (swpT c (.Tuple [.Name x px, .Name y py] kt pt) (.Tuple [a, .List es lpos] k2 pt2)).bind fun h => mkAsg pos G A h.down)
  | .Tuple [.Name x px, .Name y py] kt pt, .Tuple [a, b] k2 pt2 => orElse' ((mkArgs (r.E c) [a, b]).bind fun A => mkPar2 x y px py kt pt k2 pt2 pos A)
      ((mkTg (P := P) (c := c) (.Tuple [.Name x px, .Name y py] kt pt)).bind fun G => (r.E c (.Tuple [a, b] k2 pt2)).bind fun A => (swpT c (.Tuple [.Name x px, .Name y py] kt pt) (.Tuple [a, b] k2 pt2)).bind fun h => mkAsg pos G A h.down)
  | .Tuple [.Name x px, .Name y py, .Name z pz] kt pt, .Tuple [a, b, d] k2 pt2 => orElse' ((mkArgs (r.E c) [a, b, d]).bind fun A => mkPar3 x y z px py pz kt pt k2 pt2 pos A)
      ((mkTg (P := P) (c := c) (.Tuple [.Name x px, .Name y py, .Name z pz] kt pt)).bind fun G => (r.E c (.Tuple [a, b, d] k2 pt2)).bind fun A => (swpT c (.Tuple [.Name x px, .Name y py, .Name z pz] kt pt) (.Tuple [a, b, d] k2 pt2)).bind fun h => mkAsg pos G A h.down)
  | tg, .Call (.Attribute (.Name y p) m ap) [.Constant (.int i0) k p0] [] cp => (mkTg (P := P) (c := c) tg).bind fun G => mkPop0 G y m i0 k p ap p0 cp pos
  | tg, e => (mkTg (P := P) (c := c) tg).bind fun G => (r.E c e).bind fun A => (swpT c tg e).bind fun h => mkAsg pos G A h.down
mutual
def stepS (r : Rec P) (c : Ctx) : (st : Stmt) → Option (CS P c st)
  | .Assign [.Name x px] e pos => stepAsg1 r c x px pos e
  | .Assign [.Tuple ts k p] e pos => stepAsgT r c pos (.Tuple ts k p) e
  | .Assign [.Subscript (.Name x p) (.Constant (.str k) j p2) pos'] e pos => (r.E c e).bind fun A => mkPutC x k p p2 pos' pos j A
  | .Assign [.Subscript (.Subscript (.Name x p) (.Constant (.str k) j p2) p3) (.Name y p4) pos'] e pos => (r.E c (.Name y p4)).bind fun K => (r.E c e).bind fun A => mkPutR x k y p p2 p3 p4 pos' pos j K A
  | .Assign [.Subscript (.Name x p) k pos'] e pos => if dctIx P x = true then (recB r c k).bind fun K => (r.E c e).bind fun A => mkDput x p pos' pos K A else none
  | .Expr (.Call (.Attribute (.Name x p) m ap) [.Dict ks vs dp] [] cp) pos => (mkPs (r.E c) ks vs).bind fun A => mkUpd x m p ap cp pos dp A
  | .Expr (.Call (.Attribute (.Name x p) m ap) [a] [] cp) pos => (r.E c a).bind fun A => mkApp x m p ap cp pos A
  | .Expr e pos => (r.E c e).bind fun A => mkExpr pos A
  | .Return (some (.Name x p)) pos => orElse' (mkRetO x p pos) ((r.E c (.Name x p)).map fun A => mkRet pos A)
  | .Return (some e) pos => (r.E c e).map fun A => mkRet pos A
  | .Return none pos => some ⟨fun _ => fRet (fC .non), fun n X E B o => PS.mono ps_retN fun _ _ _ q => ts_retN (G := gc P X) q⟩
  | .Raise (some (.Call (.Name x p) [.Constant (.str m) j p2] [] pos)) none rpos => mkRaise x m j p p2 pos rpos
  | .If t a b pos => (r.T c t).bind fun T => (stepSs r c a).bind fun A => (stepSs r c b).map fun B => mkIfS pos T A B
  | .For tg iter body [] pos => (stepI r c tg iter).bind fun I => (mkTg (P := P) (c := c) tg).bind fun G => (stepSs r c body).bind fun A => mkFor pos I G A
  | .While t body [] pos => (r.T c t).bind fun T => (stepSs r c body).map fun A => mkWhile pos T A
  | .Pass pos => some ⟨fun _ => fNext, fun n X E B o => PS.mono ps_pass fun _ _ _ q => ts_next (G := gc P X) q⟩
  | .Continue pos => some ⟨fun _ => fCont, fun n X E B o => PS.mono ps_continue fun _ _ _ q => ts_cont (G := gc P X) q⟩
  | _ => none
def stepSs (r : Rec P) (c : Ctx) : (sts : List Stmt) → Option (CSs P c sts)
  | [] => some ⟨fun _ => fNext, fun n X E B o => PSs.mono pss_nil fun _ _ _ q => ts_next (G := gc P X) q⟩
  | [s] => (stepS r c s).map fun A => ⟨A.f, fun n X E B o => pss_one (A.ok n X E B o)⟩
  | s :: s' :: rest => (stepS r c s).bind fun A => (stepSs r c (s' :: rest)).map fun C => ⟨fun n => fSeq (A.f n) (C.f n), fun n X E B o => PSs.mono (pss_cons (A.ok n X E B o) (C.ok n X E B o)) fun _ _ _ q => ts_seq (G := gc P X) q⟩
end
end
end KF
set_option maxHeartbeats 4000000
/-! KFD: from a compiled body to the promise of its def. -/
namespace KF
open PySem PySem.Spec PyProof.Rows L2
/-- a table of what the callees do -/
def tabF (l : List (Nat × (List D → M D))) : Nat → List D → M D := fun id ds => match l.lookup id with
  | some m => m ds
  | none => M.fail
def fCallM (m : List D → M D) (n : Nat) (fa : Fa) : Fe := fun ρ => M.bnd (fa ρ) fun ds => if ds.length = n then m ds else M.fail
structure FnM (P : Par) (PR : Program) (w : World) (K : PySem.W.Frag) (mg : Str → Option Value) (base : Heap) (x : Str) (id : Nat) (ps : List Str) : Prop where
  nm : P.nm id = x
  ex : ∃ f fd, mg x = some (.ref f) ∧ PySem.W.keepIn K (.ref f) = true ∧ Binds K fd ps [] ∧ FnOk PR w K mg base (L2.CX PR w) P.kf f fd ps (SpOf ⟨K, mg, P.nm, P.T, w⟩ (P.Φ id) ps.length) ∧ ∀ n, (x, n) ∈ P.kw → KBn K fd ps n (ps.drop n) (fun us ws => us ++ ws) (fun us ws => us ++ ws)
structure MOk (P : Par) (PR : Program) (w : World) (K : PySem.W.Frag) (mg : Str → Option Value) (base : Heap) (xk : Bool) : Prop where
  blt : ∀ x ∈ blts, mg x = none
  cst : ∀ p ∈ P.cst, ∃ v u, mg p.1 = some u ∧ RelV v u ∧ (∀ oa Hf, Rp ⟨K, mg, P.nm, P.T, w⟩ oa Hf p.2 v) ∧ ∀ H, tyV K "tuple" v H
  exs : ∀ c ∈ P.exs, ExF K mg (nameX c)
  fns : ∀ e ∈ P.fns, FnM P PR w K mg base e.1 e.2.1 e.2.2
  kle : P.kf ≤ P.k
  xk : xk = true → XK1 K mg xcAll
def FUEL : Nat := 1000000
/-- what a def does -/
def mOf (B : Fs) (k : Nat) : List D → M D := runD B k FUEL
section
variable {PR : Program} {w : World} {K : PySem.W.Frag} {mg : Str → Option Value} {base : Heap} {x qual : Str} {st : Stmt} {f : Addr} {fd : FuncData} {P : Par} {ps : List Str} {args : Arguments} {dvs : List V} {kws : List (Str × V)} {xk : Bool}
theorem def_ok (F : FunD K x qual args (defBody st) (defScope st) dvs kws f fd) (S : FnScope P.N ps (defScope st))
    (fuel : Nat) (B : Fs) (hB : (stepSs (recs P fuel) ⟨defScope st, fun _ => true, false, xk⟩ (defBody st)).map (fun A => A.f) = some B) (hM : MOk P PR w K mg base xk) :
    FnOk PR w K mg base (L2.CX PR w) (P.k + 1) f fd ps (SpOf ⟨K, mg, P.nm, P.T, w⟩ (mOf B P.N.length) ps.length) := by
  have hpl : ps.length ≤ P.N.length := by have := congrArg List.length S.pre; rw [List.length_take] at this; omega
  obtain ⟨A0, hA, hf⟩ := Option.map_eq_some_iff.mp hB
  refine F.ok S (fun vs H Q E h => h.1) fun cdv A outer s H vs Q E hr hsp => ?_
  obtain ⟨hl, Hf, oa, ds, τ, g, r, a⟩ := hsp
  have ok : XOk P ⟨defScope st, fun _ => true, false, xk⟩ (cxOf (L2.CX PR w) PR w K mg base P.N qual (defScope st) f cdv A outer s H E) E :=
    ⟨rfl, rfl, S.nd, rfl, hr, takes_of rfl rfl rfl rfl, passes_of rfl, fun _ _ => rfl, hM.blt, hM.cst, fun e he => ⟨(hM.fns e he).nm, (hM.fns e he).ex⟩, hM.exs, hM.kle, (fun z => by cases z), hM.xk⟩
  refine ⟨_, A0.ok FUEL _ E ⟨Hf, oa, H⟩ ok, ?_⟩
  subst hf
  exact body_start (by omega) g r a
/-- a def that holds lambdas -/
theorem def_okL (F : FunD K x qual args (defBody st) (defScope st) dvs kws f fd) (S : FnScope P.N ps (defScope st))
    (fuel : Nat) (B : Fs) (hB : (stepSs (recs P fuel) ⟨defScope st, fun _ => true, true, xk⟩ (defBody st)).map (fun A => A.f) = some B) (hM : MOk P PR w K mg base xk) (hL : LamM P K mg w)
    (tab : ∃ cC PT, fd.code = .ref cC ∧ LamX.TabB base mg cC PT ∧ (PT, (envOfC qual (defScope st) 0 0 .none).qual ++ "<lambda>") ∈ P.T ∧ ∀ p ∈ P.T, p.1 = PT → p.2 = (envOfC qual (defScope st) 0 0 .none).qual ++ "<lambda>") :
    FnOk PR w K mg base (L2.CX PR w) (P.k + 1) f fd ps (SpOf ⟨K, mg, P.nm, P.T, w⟩ (mOf B P.N.length) ps.length) := by
  have hpl : ps.length ≤ P.N.length := by have := congrArg List.length S.pre; rw [List.length_take] at this; omega
  obtain ⟨A0, hA, hf⟩ := Option.map_eq_some_iff.mp hB
  obtain ⟨oc, od, dV, kV, doc, pm, an, cdv, ct, osl, rfl, lk, hcd, _, _⟩ := F.ex
  refine fn_of lk hcd S (fun vs H Q E h => h.1) fun A outer s H vs Q E hr hsp => ?_
  obtain ⟨hl, Hf, oa, ds, τ, g, r, a⟩ := hsp
  have ok : XOk P ⟨defScope st, fun _ => true, true, xk⟩ (cxOf (L2.CX PR w) PR w K mg base P.N qual (defScope st) f cdv A outer s H E) E :=
    ⟨rfl, rfl, S.nd, rfl, hr, takes_of rfl rfl rfl rfl, passes_of rfl, fun _ _ => rfl, hM.blt, hM.cst, fun e he => ⟨(hM.fns e he).nm, (hM.fns e he).ex⟩, hM.exs, hM.kle, (fun _ => ⟨hL, tab⟩), hM.xk⟩
  refine ⟨_, A0.ok FUEL _ E ⟨Hf, oa, H⟩ ok, ?_⟩
  subst hf
  exact body_start (by omega) g r a
end
end KF
set_option maxHeartbeats 4000000
/-! KFN: the def that tells how a call ended, walked. -/
namespace KF
open PySem PySem.Spec PyProof.Rows L2
/-- the first two statements, and the rest -/
def resCut (sc : Scope) : List Stmt → Option (List Stmt)
  | .Assign [.Tuple [.Name x1 p1, .Name x2 p2] _ _] (.Tuple [.Constant .none k3 p3, .Constant .none k4 p4] _ _) _ :: .Try [.Assign [.Name x3 _] (.Call (.Name x4 _) [] [] _) _] [.ExceptHandler (some (.Name x5 _)) (some x6) [.Assign [.Name x7 _] (.Name x8 _) _] _] [] [] _ :: rest =>
    if x1 = "raised" ∧ x2 = "answer" ∧ x3 = "answer" ∧ x4 = "call" ∧ x5 = "FingerError" ∧ x6 = "e" ∧ x7 = "raised" ∧ x8 = "e" ∧ swp sc [.Name x1 p1, .Name x2 p2] [.Constant .none k3 p3, .Constant .none k4 p4] = some none then some rest else none
  | _ => none
theorem rel_un {G : GC} {Hf H : Hp} {oa : List (List Addr)} {τ : Tau} {σ : L2.St} {n : Nat} (g : Good G Hf oa τ H) (h : σ.length = n) : Rel G Hf oa (List.replicate n .un) τ σ H := by
  have no : ∀ (i : Nat) (x : Sl), (List.replicate n Sl.un)[i]? = some x → x = .un := fun i x e => by
    rw [List.getElem?_replicate] at e
    split at e
    · cases e; rfl
    · cases e
  exact ⟨g, by simp [h], fun i d e => (by cases no i _ e), fun i d e => (by cases no i _ e), fun i j d e _ e1 _ => (by cases no i _ e1)⟩
theorem no_ow {i : Nat} {a : Sl} {ρ : En} (h : ∀ (k : Nat) d, ρ[k]? ≠ some (Sl.ow d)) (ha : ∀ d, a ≠ Sl.ow d) : ∀ (k : Nat) d, (ρ.set i a)[k]? ≠ some (Sl.ow d) := fun k d e => by
  rcases get_set e with ⟨_, e', _⟩ | ⟨_, e'⟩
  · exact ha d e'.symm
  · exact h k d e'
theorem un_ow {n : Nat} : ∀ (k : Nat) d, (List.replicate n Sl.un)[k]? ≠ some (.ow d) := fun k d e => by
  rw [List.getElem?_replicate] at e
  split at e <;> cases e
/-- what the rest must do: ir the slot of raised, ia the slot of answer, n slots -/
structure ResB (B : Fs) (n ir ia : Nat) : Prop where
  ok : ∀ τ d, B FUEL ((((List.replicate n .un).set ir (.fz .non)).set ia (.fz .non)).set ia (.fz d)) τ = .ok (.ret (.tup [.str "returns", d])) τ
  ex : ∀ τ c, B FUEL ((List.replicate n .un).set ir (.fz (.exc c))) τ = .ok (.ret (.tup [.str (tagX c)])) τ
section
variable {P PR : Par} {K : PySem.W.Frag} {mg : Str → Option Value} {w : World} {st : Stmt} {g CF : Addr} {cdg : Value} {rest : List Stmt} {ie ir ia : Nat}
theorem res_gives (X : Cx) (eK : X.K = K) (em : X.mg = mg) (ew : X.w = w) (hr : Room (PR.k + 1) X.A) (q : Str)
    (S : FnScope PR.N ["call"] (defScope st)) (hcut : resCut (defScope st) (defBody st) = some rest) (hir : PR.N[ir]? = some ("raised" : Str)) (hia : PR.N[ia]? = some ("answer" : Str)) (hie : PR.N[ie]? = some ("e" : Str)) (h0 : 0 ≠ ir ∧ 0 ≠ ia ∧ ir ≠ ia ∧ ie ≠ ir)
    (lr : (defScope st).names.lookup ("raised" : Str) = some .local) (la : (defScope st).names.lookup ("answer" : Str) = some .local) (le : (defScope st).names.lookup ("e" : Str) = some .local) (lF : (defScope st).names.lookup ("FingerError" : Str) = some .globalImplicit)
    (mF : mg "FingerError" = some (.ref CF)) (hF : ∀ c C, mg (nameX c) = some (.ref C) → PySem.W.exmOne K (.ref C) (.ref CF) = some true)
    (fuel : Nat) (B : Fs) (hB : (stepSs (recs PR fuel) ⟨defScope st, fun _ => true, false, true⟩ rest).map (fun A => A.f) = some B) (hRes : ResB B PR.N.length ir ia)
    (blt : ∀ x ∈ blts, mg x = none) (hcst : PR.cst = []) (hfns : PR.fns = []) (hexs : PR.exs = []) (kle : PR.kf ≤ PR.k) (xk : XK1 K mg xcAll) (eT : PR.T = P.T) (en : PR.nm = P.nm) :
    LamX.GivesTo X PR.N "_law_result" (defScope st) g cdg (defBody st) "call" q (TTr ⟨K, mg, P.nm, P.T, w⟩) := by
  intro f c' s H Q tl act hc hT
  obtain ⟨Hf, oa, τ, m, gd, htl, hA⟩ := hT
  subst eK em ew
  obtain ⟨A0, hA0, hf⟩ := Option.map_eq_some_iff.mp hB
  have eG : gc PR (cxOf C8.CX0 X.prog X.w X.K X.mg X.base PR.N "_law_result" (defScope st) g cdg X.A X.stack s H C8.E0).nox = ⟨X.K, X.mg, P.nm, P.T, X.w⟩ := by
    unfold gc
    rw [eT, en]
    rfl
  have ok : XOk PR ⟨defScope st, fun _ => true, false, true⟩ (cxOf C8.CX0 X.prog X.w X.K X.mg X.base PR.N "_law_result" (defScope st) g cdg X.A X.stack s H C8.E0).nox L2.E0 :=
    ⟨rfl, rfl, S.nd, rfl, hr.deeper _, LamX.takes0, PassesOwn.never, fun _ _ => rfl, blt, (by rw [hcst]; exact fun _ z => by cases z), (by rw [hfns]; exact fun _ z => by cases z), (by rw [hexs]; exact fun _ z => by cases z), kle, (fun z => by cases z), fun _ => xk⟩
  unfold resCut at hcut
  split at hcut
  · rename_i x1 a1 x2 a2 a3 a4 a5 a6 a7 a8 a9 a10 a11 x3 b1 x4 b2 b3 b4 x5 b5 x6 x7 b6 x8 b7 b8 b9 b10 rest' hbody
    split at hcut
    · rename_i hx
      obtain ⟨rfl, rfl, rfl, rfl, rfl, rfl, rfl, rfl, hsw⟩ := hx
      cases hcut
      rw [hbody]
      have hl : (L2.start PR.N [V.ref f]).length = PR.N.length := by
        have := congrArg List.length S.pre
        rw [List.length_take] at this
        simp [L2.start] at this ⊢
        omega
      have h0s : (L2.start PR.N [V.ref f])[0]? = some (some (.ref f)) := rfl
      refine ⟨_, pss_cons (ps_asg (X := (cxOf C8.CX0 X.prog X.w X.K X.mg X.base PR.N "_law_result" (defScope st) g cdg X.A X.stack s H C8.E0).nox) (pe_tup (pa_cons pe_non (pa_cons pe_non pa_nil (star_no rfl _ _)) (star_no rfl _ _))) (pg_tup rfl (pgs_cons (pg_name (i := ir) S.nd hir (.inl lr) (.inr lr)) (pgs_cons (pg_name (i := ia) S.nd hia (.inl la) (.inr la)) pgs_nil (by rw [asg_no rfl]; rfl)) (by rw [asg_no rfl]; rfl))) (comp_noS rfl _ _) (swp_ok hsw) (by rw [asg_no rfl]; rfl))
        (pss_cons (ps_try_trk (X := (cxOf C8.CX0 X.prog X.w X.K X.mg X.base PR.N "_law_result" (defScope st) g cdg X.A X.stack s H C8.E0).nox) (c := .ref CF) (i := ie) (j := ir)
          (tb := fun W D σ H => ∃ Ech : XK, (∀ cls d σ' H', Ech cls d H' → W cls d σ' H') ∧ σ[0]? = some (some (.ref f)) ∧ H c' = some (LamX.CodeO c' q) ∧ tl Ech H (fun v H' => D.nx (σ.set ia (some v)) H'))
          rfl rfl rfl S.nd hie le hir lr h0.2.2.2 ⟨lF, by decide, .inl mF⟩ (by decide) (fun W pn xe tk _ => ?_)) (A0.ok FUEL _ L2.E0 ⟨Hf, oa, H⟩ ok)), ?_⟩
      · refine pss_one ⟨fun pins s' σ H' D I h' => ?_⟩
        obtain ⟨Ech, hW, g1, g2, g3⟩ := h'
        have hp := act W pn xe Ech b2 b3 tk hW
        exact (ps_set (X := (cxOf C8.CX0 X.prog X.w X.K X.mg X.base PR.N "_law_result" (defScope st) g cdg X.A X.stack s H C8.E0).tr pn xe) (pos := b4) (pos' := b1) S.nd hia (.inl la) hp (comp_no rfl _ _ _) (.inr la)).run pins s' σ H' D I ⟨g1, g2, g3⟩
      · have key : ∀ σ H'' D, tS ⟨X.K, X.mg, P.nm, P.T, X.w⟩ ⟨Hf, oa, H⟩ L2.E0 (B FUEL) D σ H'' → tS (gc PR (cxOf C8.CX0 X.prog X.w X.K X.mg X.base PR.N "_law_result" (defScope st) g cdg X.A X.stack s H C8.E0).nox) ⟨Hf, oa, H⟩ L2.E0 (A0.f FUEL) D σ H'' := fun σ H'' D z => by
          rw [eG, hf]
          exact z
        refine ⟨by rw [sizeLine_eq]; decide, fun p hp => ⟨p, [.non, .non], rfl, .inl (.inl upd_same), rfl, .non, [.non], rfl, .non, [], rfl, rfl, ?_⟩⟩
        have pu0 := Pure.new (o := .tup [V.non, V.non]) gd.ex hp
        have gd0 := gd.pure pu0
        refine ⟨fun cls d H' => ∃ c τ' Hf' oa' C, d = none ∧ cls = .ref C ∧ X.mg (nameX c) = some (.ref C) ∧ m τ = .exc c τ' ∧ Post P.T Hf oa H Hf' oa' H' ∧ Good ⟨X.K, X.mg, P.nm, P.T, X.w⟩ Hf' oa' τ' H', ?_, ?_, by rw [upd_ne (ne_of_none hc hp)]; exact hc, htl _ _ _ _ pu0 ?_⟩
        · rintro cls d σ' H' ⟨c, τ', Hf', oa', C, rfl, rfl, hC, em, po, gd'⟩
          refine ⟨rfl, hF c C hC, fun hlen a ha => ?_⟩
          have pu := Pure.new (o := ExCO (.ref C) a) gd'.ex ha (fun ps z => by unfold ExCO at z; cases z)
          have g2 := gd'.pure pu
          have r0 : Rel ⟨X.K, X.mg, P.nm, P.T, X.w⟩ (upd Hf' a (ExCO (.ref C) a)) oa' (List.replicate PR.N.length .un) τ' (σ'.set ie (some (.ref a))) (upd H' a (ExCO (.ref C) a)) := rel_un g2 ((List.length_set ..).trans hlen)
          have r1 := (r0.set (i := ir) (d := .exc c) (v := .ref a) (rp_exc.mpr ⟨a, C, rfl, hC, upd_same⟩)).wipe1 (i := ie)
          have er : ((List.replicate PR.N.length Sl.un).set ir (.fz (.exc c))).set ie .un = (List.replicate PR.N.length Sl.un).set ir (.fz (.exc c)) := by
            rw [List.set_comm _ _ (Ne.symm h0.2.2.2), List.set_replicate_self]
          rw [er] at r1
          refine key _ _ _ ⟨_, oa', _, τ', ⟨r1, po.tr pu.post, fun k d l e1 _ => absurd e1 (no_ow un_ow (fun d z => by cases z) k d)⟩, ?_⟩
          unfold AtS
          rw [hRes.ex]
          intro v H'' Hf'' oa'' po'' g'' rp''
          have hA' := hA
          unfold At resM at hA'
          rw [em] at hA'
          exact hA' v H'' Hf'' oa'' po'' g'' rp''
        · rw [List.getElem?_set_ne (Ne.symm h0.2.1), List.getElem?_set_ne (Ne.symm h0.1)]
          exact h0s
        · unfold At
          cases e : m τ with
          | ok d τ' =>
            intro v H' Hf' oa' po0 gd' rp
            have po : Post P.T Hf oa H Hf' oa' H' := pu0.post.tr po0
            have r0 : Rel ⟨X.K, X.mg, P.nm, P.T, X.w⟩ Hf' oa' (List.replicate PR.N.length .un) τ' (L2.start PR.N [V.ref f]) H' := rel_un gd' hl
            have r1 := ((r0.set (i := ir) (d := .non) (v := .non) (rp_non.mpr rfl)).set (i := ia) (d := .non) (v := .non) (rp_non.mpr rfl)).set (i := ia) (d := d) (v := v) rp
            refine key _ _ _ ⟨_, oa', _, τ', ⟨r1, po, fun k d l e1 _ => absurd e1 (no_ow (no_ow (no_ow un_ow (fun d z => by cases z)) (fun d z => by cases z)) (fun d z => by cases z) k d)⟩, ?_⟩
            unfold AtS
            rw [hRes.ok]
            intro v H'' Hf'' oa'' po'' g'' rp''
            have hA' := hA
            unfold At resM at hA'
            rw [e] at hA'
            exact hA' v H'' Hf'' oa'' po'' g'' rp''
          | exc c τ' => exact fun H' Hf' oa' po gd' C hC => ⟨c, τ', Hf', oa', C, rfl, rfl, hC, rfl, pu0.post.tr po, gd'⟩
          | stuck =>
            unfold At resM at hA
            rw [e] at hA
            exact hA
    · cases hcut
  · cases hcut
theorem lamM_of {fd : FuncData} {args : Arguments} (F : FunD K "_law_result" "_law_result" args (defBody st) (defScope st) [] [] g fd) (hm : mg "_law_result" = some (.ref g)) (b : L2.Binds K fd ["call"] []) (hk : PR.k = P.kf + 1) (two : P.kf + 2 ≤ P.k)
    (S : FnScope PR.N ["call"] (defScope st)) (hcut : resCut (defScope st) (defBody st) = some rest) (hir : PR.N[ir]? = some ("raised" : Str)) (hia : PR.N[ia]? = some ("answer" : Str)) (hie : PR.N[ie]? = some ("e" : Str)) (h0 : 0 ≠ ir ∧ 0 ≠ ia ∧ ir ≠ ia ∧ ie ≠ ir)
    (lr : (defScope st).names.lookup ("raised" : Str) = some .local) (la : (defScope st).names.lookup ("answer" : Str) = some .local) (le : (defScope st).names.lookup ("e" : Str) = some .local) (lF : (defScope st).names.lookup ("FingerError" : Str) = some .globalImplicit)
    (mF : mg "FingerError" = some (.ref CF)) (hF : ∀ c C, mg (nameX c) = some (.ref C) → PySem.W.exmOne K (.ref C) (.ref CF) = some true)
    (fuel : Nat) (B : Fs) (hB : (stepSs (recs PR fuel) ⟨defScope st, fun _ => true, false, true⟩ rest).map (fun A => A.f) = some B) (hRes : ResB B PR.N.length ir ia)
    (blt : ∀ x ∈ blts, mg x = none) (hcst : PR.cst = []) (hfns : PR.fns = []) (hexs : PR.exs = []) (kle : PR.kf ≤ PR.k) (xk : XK1 K mg xcAll) (eT : PR.T = P.T) (en : PR.nm = P.nm) : LamM P K mg w := by
  obtain ⟨oc, od, dV, kV, doc, pm, an, cdv, ct, osl, rfl, lk, hcd, _, _⟩ := F.ex
  exact ⟨⟨g, PR.N, defScope st, defBody st, args, dV, kV, doc, pm, cdv, ct, oc, an, od, osl, hm, F.kp, lk, hcd, b, S, fun X eK em ew hr q => res_gives X eK em ew (by rw [hk]; exact hr) q S hcut hir hia hie h0 lr la le lF mF hF fuel B hB hRes blt hcst hfns hexs kle xk eT en⟩, two⟩
end
end KF
set_option maxHeartbeats 4000000
/-! KFG: the head's facts. -/
namespace KF
open PySem PySem.Spec PyProof.Rows L2
mutual
/-- the value u in the written part is d: ints, tuples of them -/
def kB (K : PySem.W.Frag) : D → Value → Bool
  | .int i, .int j _ => decide (j = i)
  | .tup l, .ref a => match K.lookup a with
    | some ⟨.type c, none, .seq its _, _⟩ => decide (c = "tuple") && (decide (its.size ≤ sizeLine) && kBs K l its.toList)
    | _ => false
  | _, _ => false
def kBs (K : PySem.W.Frag) : List D → List Value → Bool
  | [], [] => true
  | d :: ds, u :: us => kB K d u && kBs K ds us
  | _, _ => false
end
mutual
theorem kB_ok {K : PySem.W.Frag} : ∀ (d : D) (u : Value), kB K d u = true → ∃ v, RelV v u ∧ (∀ (mg : Str → Option Value) (nm : Nat → Str) (T : List (Addr × Str)) (w : World) (oa : List (List Addr)) (Hf : Hp), Rp ⟨K, mg, nm, T, w⟩ oa Hf d v) ∧ ((∃ l, d = .tup l) → ∀ H, tyV K "tuple" v H)
  | .int i, u, h => by
    cases u with
    | int j t =>
      rw [kB] at h
      have := of_decide_eq_true h
      subst this
      exact ⟨.int j, ⟨t, rfl⟩, fun _ _ _ _ _ _ => rp_int.mpr rfl, fun ⟨l, e⟩ => by cases e⟩
    | _ => simp [kB] at h
  | .tup l, u, h => by
    cases u with
    | ref a =>
      rw [kB] at h
      split at h
      · rename_i c its n sl q
        rw [Bool.and_eq_true, Bool.and_eq_true] at h
        obtain ⟨h1, h2, h3⟩ := h
        obtain ⟨vs, e1, e2⟩ := kBs_ok l its.toList h3
        refine ⟨.ref a, rfl, fun mg nm T w oa Hf => rp_tup.mpr ⟨a, vs, rfl, .inr ⟨_, its, n, q, congrArg Value.type (of_decide_eq_true h1), rfl, of_decide_eq_true h2, e1⟩, e2 mg nm T w oa Hf⟩, fun _ H => .inr (.inl ⟨rfl, _, q, congrArg Value.type (of_decide_eq_true h1), rfl⟩)⟩
      · cases h
    | _ => simp [kB] at h
  | .non, _, h => by simp [kB] at h
  | .bl _, _, h => by simp [kB] at h
  | .str _, _, h => by simp [kB] at h
  | .lst _, _, h => by simp [kB] at h
  | .dic _ _, _, h => by simp [kB] at h
  | .fn _, _, h => by simp [kB] at h
  | .obj _, _, h => by simp [kB] at h
  | .scr _, _, h => by simp [kB] at h
  | .exc _, _, h => by simp [kB] at h
  | .dnt _ _, _, h => by simp [kB] at h
theorem kBs_ok {K : PySem.W.Frag} : ∀ (ds : List D) (us : List Value), kBs K ds us = true → ∃ vs, Vals vs us ∧ ∀ (mg : Str → Option Value) (nm : Nat → Str) (T : List (Addr × Str)) (w : World) (oa : List (List Addr)) (Hf : Hp), RpA ⟨K, mg, nm, T, w⟩ oa Hf ds vs
  | [], [], _ => ⟨[], .nil, fun _ _ _ _ _ _ => rpa_nil.mpr rfl⟩
  | d :: ds, u :: us, h => by
    rw [kBs, Bool.and_eq_true] at h
    obtain ⟨v, h1, h2, _⟩ := kB_ok d u h.1
    obtain ⟨vs, h3, h4⟩ := kBs_ok ds us h.2
    exact ⟨v :: vs, .cons h1 h3, fun mg nm T w oa Hf => rpa_cons.mpr ⟨v, vs, rfl, h2 mg nm T w oa Hf, h4 mg nm T w oa Hf⟩⟩
  | [], _ :: _, h => by simp [kBs] at h
  | _ :: _, [], h => by simp [kBs] at h
end
def cstB (K : PySem.W.Frag) (x : Str) (d : D) : Bool := match PySem.W.nsIn K mainGlobals x with
  | some (some u) => kB K d u && (match d with | .tup _ => true | _ => false)
  | _ => false
theorem cstB_ok {K : PySem.W.Frag} {h : Heap} {mg : Str → Option Value} (X : K.In h) (G : h.Ns mainGlobals mg) {x : Str} {d : D} (c : cstB K x d = true) (nm : Nat → Str) (T : List (Addr × Str)) (w : World) : ∃ v u, mg x = some u ∧ RelV v u ∧ (∀ oa Hf, Rp ⟨K, mg, nm, T, w⟩ oa Hf d v) ∧ ∀ H, tyV K "tuple" v H := by
  unfold cstB at c
  split at c
  · rename_i u e
    rw [Bool.and_eq_true] at c
    obtain ⟨v, h1, h2, h3⟩ := kB_ok d u c.1
    refine ⟨v, u, PySem.W.mg_of X G e, h1, fun oa Hf => h2 mg nm T w oa Hf, h3 ?_⟩
    have c2 := c.2
    cases d with
    | tup l => exact ⟨l, rfl⟩
    | _ => cases c2
  · cases c
theorem exF_ok {K : PySem.W.Frag} {h : Heap} {mg : Str → Option Value} (X : K.In h) (G : h.Ns mainGlobals mg) {x : Str} (g : (He.Fa.glo x).ok K = true) (c : (He.Fa.exc x).ok K = true) : ExF K mg x := by
  obtain ⟨h1, h2, h3, h4⟩ := He.exc_ok c
  exact ⟨He.ga K x, He.glo_ok X G g, h1, h2, h3, h4⟩
/-! ### the hook -/
abbrev AlK : Type := Bool × He.AlD
def obsK (cs : List (Str × D)) (fa : List He.Fa) (fn : List He.DefD) (K : PySem.W.Frag) : AlK := (cs.all fun p => cstB K p.1 p.2, He.obsD fa fn K)
def SaysK (cs : List (Str × D)) (fa : List He.Fa) (fn : List He.DefD) (K : PySem.W.Frag) : Prop := (cs.all fun p => cstB K p.1 p.2) = true ∧ He.SaysD fa fn K
def obsKG (n : Nat) (cs : List (Str × D)) (fa : List He.Fa) (fn : List He.DefD) (g : Addr → Option Obj) : AlK := obsK cs fa fn (He.frG g (He.asD g n))
def hookK (n : Nat) (cs : List (Str × D)) (fa : List He.Fa) (fn : List He.DefD) : PySem.W.Hook where
  α := AlK
  obs := fun s => obsKG n cs fa fn s.heap.get?
  val := fun _ => (true, He.valD fn)
  says := fun _ h => ∃ K : PySem.W.Frag, K.In h ∧ SaysK cs fa fn K
  of := fun _ _ e => ⟨_, He.frG_in, congrArg (fun z : AlK => z.1) e, congrArg (fun z : AlK => z.2) e⟩
  keeps := fun _ _ _ ⟨K, hK, c⟩ k => ⟨K, PySem.W.Frag.In.keeps hK k, c⟩
theorem obsKG_eq {n : Nat} {cs : List (Str × D)} {fa : List He.Fa} {fn : List He.DefD} {g : Addr → Option Obj} {s : Shared} (h : ∀ a, g a = s.heap.get? a) : obsKG n cs fa fn g = (hookK n cs fa fn).obs s := by
  have e : g = s.heap.get? := funext h
  rw [e] <;> rfl
theorem SaysK.cst {cs : List (Str × D)} {fa : List He.Fa} {fn : List He.DefD} {K : PySem.W.Frag} (c : SaysK cs fa fn K) {p : Str × D} (h : p ∈ cs) : cstB K p.1 p.2 = true := List.all_eq_true.mp c.1 p h
/-! ### small makers -/
section
variable {P : Par} {PR : Program} {w : World} {K : PySem.W.Frag} {mg : Str → Option Value} {base : Heap}
theorem FnM.mk' {x : Str} {id : Nat} {ps : List Str} {m : List D → M D} {f : Addr} {fd : FuncData} {j : Nat} (hn : P.nm id = x) (hΦ : P.Φ id = m) (g : mg x = some (.ref f)) (kp : PySem.W.keepIn K (.ref f) = true) (b : Binds K fd ps [])
    (O : FnOk PR w K mg base (L2.CX PR w) j f fd ps (SpOf ⟨K, mg, P.nm, P.T, w⟩ m ps.length)) (hj : j ≤ P.kf) (hk : ∀ n, (x, n) ∈ P.kw → KBn K fd ps n (ps.drop n) (fun us ws => us ++ ws) (fun us ws => us ++ ws)) : FnM P PR w K mg base x id ps := ⟨hn, f, fd, g, kp, b, by rw [hΦ]; exact O.mono hj, hk⟩
theorem all_nil {α : Type} {p : α → Prop} : ∀ x ∈ ([] : List α), p x := fun _ h => by cases h
theorem all_cons {α : Type} {p : α → Prop} {a : α} {l : List α} (h : p a) (t : ∀ x ∈ l, p x) : ∀ x ∈ a :: l, p x := fun x hx => by
  rcases List.mem_cons.mp hx with rfl | hx
  · exact h
  · exact t x hx
theorem room_law {k : Nat} (h : k ≤ 40) : Room k callerA := ⟨rfl, by show (_ : Nat) + 3 * k + 5 < _; have : (callerA.depth + 3 * 40 + 5 < recursionLimit) := by decide
                                                                     omega, by have : (callerA.units + 16 * 40 + 200 < cLine) := by decide
                                                                               omega⟩
theorem walk_ofC {l : PySem.W.OpenLaw} {n k : Nat} {q : Program} {loose : List Str} {XP : (Str → Option Value) → Heap → Prop} {YP : World → Heap → Prop} {d : DefRec} {x : Str}
    (hn : l.most = some n) (hn2 : n ≤ sizeLine) (hdf : d.params.defaults = []) (hr : Room k callerA)
    (F : ∀ (w : World) (mg : Str → Option Value) (fa : Addr) (h : Heap), YP w h → h.Ns mainGlobals mg → mg d.name = some (.ref fa) →
      ∃ (K : PySem.W.Frag) (fd : FuncData) (sp : Sp), K.In h ∧ (∀ (s : Shared) (u : Value), BindsTo s fd ⟨[u], []⟩ [(x, u)]) ∧
        (∀ (H : Hp) (a : Addr) (ns : List Int), ns.length ≤ n → Only H → SqL K H a (ns.map V.int) → sp [.ref a] H (fun v _ => v = .bl true) fun _ _ _ => False) ∧
        ∀ base : Heap, K.In base → base.Ns mainGlobals mg → FnOk l.prog w K mg base (L2.CX l.prog w) k fa fd [x] sp) :
    PySem.W.WalkO q loose XP YP l.row.toRowW d [] (fun f vs => PySem.call f vs) := by
  refine Att.attach_call hn hdf fun w s₀ s₁ mg mb fa o pm cd doc a vs ns G Y ho hd hcd hmg hobj hints hlen hg => ?_
  obtain ⟨K, fd, sp, KX, hb, hsp, hF⟩ := F w mg fa _ Y G.T.g hmg
  refine law_call KX G.T.g G.T.b G.T.builtins G.T.nolimit hg hobj hints (Nat.le_trans hlen hn2) hr hF hb (fun H hO hS => hsp H a ns hlen hO hS) fun H e s' z => ?_
  obtain ⟨_, _, _, _, _, _, _, _, _, _, _, _, z⟩ := z
  exact z.elim
/-- all but the tables -/
def noT (H : Hp) : Hp := fun a => match H a with
  | some (.tbl _) => none
  | x => x
theorem noT_ex {H : Hp} : Ex (noT H) H := fun a o h => by
  unfold noT at h
  split at h
  · cases h
  · exact h
theorem noT_of {H : Hp} {a : Addr} {o : HO} (h : H a = some o) (n : Nt o) : noT H a = some o := by
  unfold noT
  rw [h]
  cases o with
  | tbl ps => exact absurd rfl (n ps)
  | _ => rfl
theorem noT_tbl {H : Hp} (a : Addr) (ps : Array Value) : noT H a ≠ some (.tbl ps) := fun h => by
  unfold noT at h
  split at h
  · cases h
  · rename_i n; exact n ps h
theorem sp_law {m : List D → M D} {H : Hp} {a : Addr} {ns : List Int} {nm : Nat → Str} {T : List (Addr × Str)} (hT : LamX.Tabs T H) (hS : SqL K H a (ns.map V.int)) (h : ∃ τ', m [.scr ns] [] = .ok (.bl true) τ') : SpOf ⟨K, mg, nm, T, w⟩ m 1 [.ref a] H (fun v _ => v = .bl true) fun _ _ _ => False := by
  have hS' : SqL K (noT H) a (ns.map V.int) := by
    rcases hS with (h | ⟨o, h⟩) | h
    · exact .inl (.inl (noT_of h (by intro ps z; cases z)))
    · exact .inl (.inr ⟨o, noT_of h (by intro ps z; cases z)⟩)
    · exact .inr h
  refine ⟨rfl, noT H, [], [.scr ns], [], ⟨noT_ex, ⟨rfl, fun n l o e _ => by simp at e, fun n m l l' a _ e => by simp at e⟩, hT, fun a v => ?_, noT_tbl⟩, rpa_cons.mpr ⟨_, [], rfl, rp_scr.mpr ⟨a, rfl, hS'⟩, rpa_nil.mpr rfl⟩, ?_⟩
  · rcases v with ⟨l, hl, _⟩ | v
    · cases hl
    · obtain ⟨p, hp, rfl⟩ := List.mem_map.mp v
      obtain ⟨ps, h, _⟩ := hT p hp
      unfold noT
      rw [h]
  · obtain ⟨τ', e⟩ := h
    unfold At
    rw [e]
    exact fun v H' Hf' oa' _ _ r => rp_bl.mp r
end
theorem kb_of {K : PySem.W.Frag} {x qual : Str} {params : Arguments} {body : List Stmt} {scope : Scope} {kws : List (Str × V)} {f : Addr} {fd : FuncData} {ps ks : List Str} {n : Nat} (F : FunD K x qual params body scope [] kws f fd)
    (h : ∀ (kV doc pm : Value) (an : Option Addr) (cdv ct : Value) (us ws : List Value), us.length = n → ws.length = ks.length → bindArgs (PySem.W.fnOf x qual params body scope .none kV doc pm an cdv ct) ⟨us, ks.zip ws⟩ = pure (ps.zip (us ++ ws))) : KBn K fd ps n ks (fun us ws => us ++ ws) (fun us ws => us ++ ws) := by
  obtain ⟨oc, od, dV, kV, doc, pm, an, cdv, ct, osl, rfl, lk, hcd, hD, hK⟩ := F.ex
  rcases hD with ⟨_, rfl⟩ | ⟨e, _⟩
  · exact ⟨fun s us ws _ l1 l2 => .of_eq (h kV doc pm an cdv ct us ws l1 l2), fun r1 r2 => r1.append r2⟩
  · exact absurd rfl e
theorem kw_nil {x : Str} {R : Nat → Prop} : ∀ p ∈ ([] : List (Str × Nat)), p.1 = x → R p.2 := fun _ h => by cases h
theorem kw_hit {x : Str} {R : Nat → Prop} {j : Nat} {l : List (Str × Nat)} {y : Str} (h : R j) (t : ∀ p ∈ l, p.1 = x → R p.2) : ∀ p ∈ (y, j) :: l, p.1 = x → R p.2 := fun p hp e => by
  rcases List.mem_cons.mp hp with rfl | hp
  · exact h
  · exact t p hp e
theorem kw_miss {x : Str} {R : Nat → Prop} {j : Nat} {l : List (Str × Nat)} {y : Str} (h : y ≠ x) (t : ∀ p ∈ l, p.1 = x → R p.2) : ∀ p ∈ (y, j) :: l, p.1 = x → R p.2 := fun p hp e => by
  rcases List.mem_cons.mp hp with rfl | hp
  · exact absurd e h
  · exact t p hp e
theorem kw_no {x : Str} {l : List (Str × Nat)} (h : (l.all fun p => !decide (p.1 = x)) = true) {n : Nat} (z : (x, n) ∈ l) : False := by
  have := List.all_eq_true.mp h _ z
  simp at this
theorem kw_only {x : Str} {l : List (Str × Nat)} {j : Nat} (h : (l.all fun p => !decide (p.1 = x) || decide (p.2 = j)) = true) {n : Nat} (z : (x, n) ∈ l) : n = j := by
  have := List.all_eq_true.mp h _ z
  simpa using this
theorem kw_two {x : Str} {l : List (Str × Nat)} {i j : Nat} (h : (l.all fun p => !decide (p.1 = x) || decide (p.2 = i ∨ p.2 = j)) = true) {n : Nat} (z : (x, n) ∈ l) : n = i ∨ n = j := by
  have := List.all_eq_true.mp h _ z
  simpa using this
theorem kw_all {x : Str} {R : Nat → Prop} {l : List (Str × Nat)} (t : ∀ p ∈ l, p.1 = x → R p.2) : ∀ n, (x, n) ∈ l → R n := fun n h => t (x, n) h rfl
/-! ### laws with lambdas -/
def excCB (K : PySem.W.Frag) (D : Addr) : Bool :=
  decide (PySem.W.findIn K (.ref D) "__getattribute__" = some (some (.builtin "BaseException.__getattribute__"))) && decide (PySem.W.findIn K (.ref D) "__getattr__" = some none) && decide (PySem.W.subIn K (.ref D) (.type "BaseException") = some true) && PySem.W.hasDictIn K D &&
  decide (PySem.W.findIn K (.ref D) "__class__" = some (some (.builtin "object.__class__"))) && decide (PySem.W.specialIn K (.builtin "object.__class__") "__get__" = some (some (.builtin "getset_descriptor.__get__"))) && decide (PySem.W.takesIn K (.builtin "object.__class__") = some true) && decide (PySem.W.mroIn K D (.type "object") = some true)
theorem excCB_ok {K : PySem.W.Frag} {D : Addr} (h : excCB K D = true) : ExcC K D := by
  unfold excCB at h
  simp only [Bool.and_eq_true, decide_eq_true_eq] at h
  obtain ⟨⟨⟨⟨⟨⟨⟨h1, h2⟩, h3⟩, h4⟩, h5⟩, h6⟩, h7⟩, h8⟩ := h
  exact ⟨h1, h2, h3, h4, h5, h6, h7, h8⟩
def xkB (K : PySem.W.Frag) : Bool := (He.Fa.glo "FingerError").ok K && xcAll.all fun c => (He.Fa.glo (nameX c)).ok K && excCB K (He.ga K (nameX c)) && decide (PySem.W.kitOne K (.ref (He.ga K (nameX c))) (.type "ValueError") = some true) && decide (PySem.W.exmOne K (.ref (He.ga K (nameX c))) (.ref (He.ga K "FingerError")) = some true) &&
  xcAll.all fun c' => decide (PySem.W.kitOne K (.ref (He.ga K (nameX c))) (.ref (He.ga K (nameX c'))) = some (decide (c = c')))
theorem xkB_ok {K : PySem.W.Frag} {h : Heap} {mg : Str → Option Value} (X : K.In h) (G : h.Ns mainGlobals mg) (e : xkB K = true) : XK1 K mg xcAll ∧ mg "FingerError" = some (.ref (He.ga K "FingerError")) ∧ ∀ c C, mg (nameX c) = some (.ref C) → PySem.W.exmOne K (.ref C) (.ref (He.ga K "FingerError")) = some true := by
  unfold xkB at e
  rw [Bool.and_eq_true] at e
  obtain ⟨e0, e1⟩ := e
  have key : ∀ c : XC, mg (nameX c) = some (.ref (He.ga K (nameX c))) ∧ ExcC K (He.ga K (nameX c)) ∧ PySem.W.kitOne K (.ref (He.ga K (nameX c))) (.type "ValueError") = some true ∧ PySem.W.exmOne K (.ref (He.ga K (nameX c))) (.ref (He.ga K "FingerError")) = some true ∧ ∀ c' : XC, PySem.W.kitOne K (.ref (He.ga K (nameX c))) (.ref (He.ga K (nameX c'))) = some (decide (c = c')) := fun c => by
    have q := List.all_eq_true.mp e1 c (xcAll_mem c)
    simp only [Bool.and_eq_true, decide_eq_true_eq] at q
    obtain ⟨⟨⟨⟨q1, q2⟩, q3⟩, q4⟩, q5⟩ := q
    exact ⟨He.glo_ok X G q1, excCB_ok q2, q3, q4, fun c' => of_decide_eq_true (List.all_eq_true.mp q5 c' (xcAll_mem c'))⟩
  have inj : ∀ {c : XC} {C : Addr}, mg (nameX c) = some (.ref C) → C = He.ga K (nameX c) := fun {c C} hC => by
    have := hC.symm.trans (key c).1
    cases this
    rfl
  refine ⟨⟨fun c _ => ⟨_, (key c).1, (key c).2.1⟩, fun c _ c' _ C C' h1 h2 => ?_, fun c _ C h1 => ?_⟩, He.glo_ok X G e0, fun c C h1 => ?_⟩
  · rw [inj h1, inj h2]; exact (key c).2.2.2.2 c'
  · rw [inj h1]; exact (key c).2.2.1
  · rw [inj h1]; exact (key c).2.2.2.1
theorem tabs_new {T : List (Addr × Str)} {H : Hp} (h : ∀ p ∈ T, H p.1 = some (.tbl #[])) : LamX.Tabs T H := fun p hp => ⟨#[], h p hp, by trivial, fun pos cv e => by cases e⟩
/-- the code object of a def, with its table -/
theorem code_at {K : PySem.W.Frag} {x qual : Str} {params : Arguments} {body : List Stmt} {scope : Scope} {dvs : List V} {kws : List (Str × V)} {fd : FuncData} {p : He.Defn} (F : FunD K x qual params body scope dvs kws (He.fAd K p) fd) : fd.code = .ref (He.codeOf K p) := by
  obtain ⟨oc, od, dV, kV, doc, pm, an, cdv, ct, osl, rfl, lk, hcd, _, _⟩ := F.ex
  obtain ⟨c, rfl⟩ := He.codeIn_ref hcd
  rw [He.codeOf_eq (c := c) lk rfl]
end KF
set_option maxHeartbeats 4000000
/-! KP: what the package's functions do, as found in the text. -/
namespace KF
open PySem PySem.Spec PyProof.Rows L2
def nmAll : Nat → Str := fun i => Str.ofString ((["is_between", "is_span", "is_hand", "check_hand", "is_note", "is_passage", "check_finger", "check_step", "does_step", "after_step", "played_steps", "steps_of", "next_fingers", "_law_result", "_law_is", "_law_draw", "_law_begun", "_law_hand", "_law_passage", "_law_odd", "law", "can_step", "_law_does", "_law_after", "check_two", "is_wider", "_law_wider", "check_both", "steps_in", "is_played", "is_fingering_of", "is_fingering", "sets_along", "count_fingerings", "can_play", "sets_back", "first_of", "first_fingering", "stuck_at", "fingers_at", "_law_all", "_law_stuck", "_law_errors", "_law_notes", "does_cross", "crossings_of", "crossings", "best_of", "fewest_crossings", "best_fingering", "_law_crossed", "check_keys", "all_ends", "stuck_rows", "is_free", "stuck_row", "least_choice", "_law_keys", "_law_search", "is_pattern", "check_pattern", "turned", "turns_of", "can_repeat", "is_endless", "most_turns", "_law_turns", "sets_back_to", "closed_of", "loop", "_law_pattern", "_law_written", "_law_others", "is_loop", "_law_closed", "_law_first", "_law_played", "parted", "can_play_same", "parting_steps", "plays_all_of", "_law_near", "_law_wide", "_law_parted", "_law_operation", "_law_call", "_law_due", "_law_agrees", "_wall", "_law_observed", "_law_undone", "hand_text", "format_hand", "row_text", "format_passage", "format_pattern", "read_integer", "read_span", "parse_hand", "read_row", "parse_passage", "parse_pattern", "_law_hand_text", "_law_changed", "_law_by_hand", "_law_still", "_law_passing", "_law_parts"] : List String).getD i "")
def l_FINGERS : List D := [.int 1, .int 2, .int 3, .int 4, .int 5]
def c_FINGERS : D := .tup l_FINGERS
def l_PAIRS : List D := [.tup [.int 1, .int 2], .tup [.int 1, .int 3], .tup [.int 1, .int 4], .tup [.int 1, .int 5], .tup [.int 2, .int 3], .tup [.int 2, .int 4], .tup [.int 2, .int 5], .tup [.int 3, .int 4], .tup [.int 3, .int 5], .tup [.int 4, .int 5]]
def c_PAIRS : D := .tup l_PAIRS
def B_is_between : Fs := fun n =>
    (fRet (fAndV (fIsi "int" (fBor 0)) (fAndV (fNotV (fIsi "bool" (fBor 0))) (fChain gLe gLe (fBor 1) (fBor 0) (fBor 2)))))
def m_is_between : List D → M D := mOf B_is_between 3
def B_is_span : Fs := fun n =>
    (fSeq (fIf (fOr (fNot (fTru (fIsi "tuple" (fBor 1)))) (fOr (fB (f2 gNe (fN gLen (fCons (fBor 1) fNil)) (fC (.int 2)))) (fNot (fTru (fCallM m_is_between 3 (fCons (f2 gIxA (fBor 1) (fC (.int 1))) (fCons (fC (.int 1)) (fCons (fC (.int 12)) fNil))))))))
    (fRet (fC (.bl false)))
    fNext)
    (fRet (fCallM m_is_between 3 (fCons (f2 gIxA (fBor 1) (fC (.int 0))) (fCons (fIfE (fB (f2 gEq (f2 gIxA (fBor 0) (fC (.int 0))) (fC (.int 1)))) (f1 gNeg (fC (.int 6))) (fC (.int 1))) (fCons (f2 gIxA (fBor 1) (fC (.int 1))) fNil))))))
def m_is_span : List D → M D := mOf B_is_span 2
def B_is_hand : Fs := fun n =>
    (fSeq (fIf (fOr (fNot (fTru (fIsi "tuple" (fBor 0)))) (fOr (fB (f2 gNe (fN gLen (fCons (fBor 0) fNil)) (fC (.int 2)))) (fNot (fTru (fCallM m_is_between 3 (fCons (f2 gIxA (fBor 0) (fC (.int 1))) (fCons (fC (.int 0)) (fCons (fC (.int 3)) fNil))))))))
    (fRet (fC (.bl false)))
    fNext)
    (fSeq (fIf (fOr (fNot (fTru (fIsi "tuple" (f2 gIxA (fBor 0) (fC (.int 0)))))) (fB (f2 gNe (fN gLen (fCons (f2 gIxA (fBor 0) (fC (.int 0))) fNil)) (fC (.int 10)))))
    (fRet (fC (.bl false)))
    fNext)
    (fRet (fN gAll (fCons (fLc (fRng zip2 (fCons (fC c_PAIRS) (fCons (f2 gIxA (fBor 0) (fC (.int 0))) fNil))) (.tup [(.name 1), (.name 2)]) (fun _ => M.ret true) (fCallM m_is_span 2 (fCons (fVar 1) (fCons (fVar 2) fNil))) [1, 2]) fNil)))))
def m_is_hand : List D → M D := mOf B_is_hand 3
def B_check_hand : Fs := fun n =>
    (fIf (fNot (fTru (fCallM m_is_hand 1 (fCons (fVar 0) fNil))))
    (fRaise .hand)
    fNext)
def m_check_hand : List D → M D := mOf B_check_hand 1
def B_is_note : Fs := fun n =>
    (fRet (fCallM m_is_between 3 (fCons (fVar 0) (fCons (fC (.int 0)) (fCons (fC (.int 99)) fNil)))))
def m_is_note : List D → M D := mOf B_is_note 1
def B_is_passage : Fs := fun n =>
    (fRet (fAndV (fIsi "tuple" (fBor 0)) (fAndV (f2 gLe (fN gLen (fCons (fBor 0) fNil)) (fC (.int 12))) (fN gAll (fCons (fLc (fItA (fVar 0)) (.name 1) (fun _ => M.ret true) (fCallM m_is_note 1 (fCons (fVar 1) fNil)) [1]) fNil)))))
def m_is_passage : List D → M D := mOf B_is_passage 2
def B_check_finger : Fs := fun n =>
    (fIf (fNot (fTru (fCallM m_is_between 3 (fCons (fVar 0) (fCons (fC (.int 1)) (fCons (fC (.int 5)) fNil))))))
    (fRaise .finger)
    fNext)
def m_check_finger : List D → M D := mOf B_check_finger 1
def B_check_step : Fs := fun n =>
    (fIf (fNot (fTru (fCallM m_is_between 3 (fCons (fVar 0) (fCons (f1 gNeg (fC (.int 99))) (fCons (fC (.int 99)) fNil))))))
    (fRaise .step)
    fNext)
def m_check_step : List D → M D := mOf B_check_step 1
def B_does_step : Fs := fun n =>
    (fSeq (fIf (fB (f2 gEq (fBor 1) (fBor 3)))
    (fRet (f2 gLe (fN gAbs (fCons (fBor 2) fNil)) (f2 gIxA (fBor 0) (fC (.int 1)))))
    fNext)
    (fSeq (fAsg (.tup [(.name 4), (.name 5)]) (f2 gIxA (f2 gIxA (fBor 0) (fC (.int 0))) (fIdxC l_PAIRS (fSz .tup (fCons (fN gMin2 (fCons (fBor 1) (fCons (fBor 3) fNil))) (fCons (fN gMax2 (fCons (fBor 1) (fCons (fBor 3) fNil))) fNil))))))
    (fRet (fChain gLe gLe (fBor 4) (fIfE (fB (f2 gGtI (fBor 3) (fBor 1))) (fVar 2) (f2 gSub (fC (.int 0)) (fBor 2))) (fBor 5)))))
def m_does_step : List D → M D := mOf B_does_step 6
def B_after_step : Fs := fun n =>
    (fRet (fN gTuple (fCons (fLc (fItA (fC c_FINGERS)) (.name 3) (fTru (fN gAny (fCons (fLc (fItA (fVar 1)) (.name 4) (fun _ => M.ret true) (fCallM m_does_step 4 (fCons (fVar 0) (fCons (fVar 4) (fCons (fVar 2) (fCons (fVar 3) fNil))))) [4]) fNil))) (fVar 3) [3]) fNil)))
def m_after_step : List D → M D := mOf B_after_step 5
def B_played_steps : Fs := fun n =>
    (fRet (fLc (fRng rng2 (fCons (f1 gNeg (fC (.int 12))) (fCons (fC (.int 13)) fNil))) (.name 1) (fB (f2 gNe (fCallM m_after_step 3 (fCons (fVar 0) (fCons (fC c_FINGERS) (fCons (fVar 1) fNil)))) (fSz .tup fNil))) (fVar 1) [1]))
def m_played_steps : List D → M D := mOf B_played_steps 2
def B_steps_of : Fs := fun n =>
    (fSeq (fDrop (fCallM m_check_hand 1 (fCons (fVar 0) fNil)))
    (fRet (fN gTuple (fCons (fCallM m_played_steps 1 (fCons (fVar 0) fNil)) fNil))))
def m_steps_of : List D → M D := mOf B_steps_of 1
def B_next_fingers : Fs := fun n =>
    (fSeq (fDrop (fCallM m_check_hand 1 (fCons (fVar 0) fNil)))
    (fSeq (fDrop (fCallM m_check_finger 1 (fCons (fVar 1) fNil)))
    (fSeq (fDrop (fCallM m_check_step 1 (fCons (fVar 2) fNil)))
    (fRet (fCallM m_after_step 3 (fCons (fVar 0) (fCons (fSz .tup (fCons (fVar 1) fNil)) (fCons (fVar 2) fNil))))))))
def m_next_fingers : List D → M D := mOf B_next_fingers 3
def B__law_result : Fs := fun n =>
    (fSeq (fIf (fB (f2 gIs (fBor 1) (fC .non)))
    (fRet (fSz .tup (fCons (fC (.str "returns")) (fCons (fVar 2) fNil))))
    fNext)
    (fSeq (fAsgO 4 (fDsp [("cannot", (fIsX xcAll (fun c => decide (c = .cannot)) (fVar 1))), ("which", (fIsX xcAll (fun c => decide (c = .finger)) (fVar 1)))]))
    (fSeq (fUpd 4 [("fingers", (fIsX xcAll (fun c => decide (c = .fingering)) (fVar 1))), ("hand", (fIsX xcAll (fun c => decide (c = .hand)) (fVar 1)))])
    (fSeq (fUpd 4 [("keys", (fIsX xcAll (fun c => decide (c = .keys)) (fVar 1))), ("tone", (fIsX xcAll (fun c => decide (c = .note)) (fVar 1)))])
    (fSeq (fUpd 4 [("notes", (fIsX xcAll (fun c => decide (c = .passage)) (fVar 1))), ("rows", (fIsX xcAll (fun c => decide (c = .pattern)) (fVar 1)))])
    (fSeq (fUpd 4 [("spot", (fIsX xcAll (fun c => decide (c = .place)) (fVar 1))), ("by", (fIsX xcAll (fun c => decide (c = .step)) (fVar 1)))])
    (fSeq (fUpd 4 [("text", (fIsX xcAll (fun c => decide (c = .text)) (fVar 1))), ("count", (fIsX xcAll (fun c => decide (c = .times)) (fVar 1)))])
    (fSeq (fUpd 4 [("empty", (fIsX xcAll (fun c => decide (c = .played)) (fVar 1))), ("undo", (fIsX xcAll (fun c => decide (c = .undo)) (fVar 1)))])
    (fSeq (fUpd 4 [("long", (fIsX xcAll (fun c => decide (c = .long)) (fVar 1)))])
    (fSeq (fLock 4 (fAsg (.name 5) (fLc (fKeys 4) (.name 6) (fTru (f2 gDget (fBor 4) (fBor 6))) (fVar 6) [6])))
    (fRet (fIfE (fAnd (fB (f2 gEq (fN gLen (fCons (fBor 5) fNil)) (fC (.int 1)))) (fTru (fIsX xcAll (fun _ => true) (fVar 1)))) (fSz .tup (fCons (f2 gIxA (fBor 5) (fC (.int 0))) fNil)) (fSz .tup (fCons (fC (.str "other error")) fNil))))))))))))))
theorem res_B : ResB B__law_result 7 1 2 := ⟨fun τ d => rfl, fun τ c => by cases c <;> rfl⟩
def B__law_is : Fs := fun n =>
    (fRet (fAndV (fIsi "bool" (fBor 0)) (f2 gEq (fBor 0) (fBor 1))))
def m__law_is : List D → M D := mOf B__law_is 2
def B__law_draw : Fs := fun n =>
    (fSeq (fPutC 1 (f2 gAdd (fCount 1) (fC (.int 1))))
    (fSeq (fAsg (.name 3) (fIfE (fTru (fBor 0)) (f2 gMod (fCount 1) (fN gLen (fCons (fBor 0) fNil))) (fC (.int 0))))
    (fSeq (fAsg (.name 4) (fRest 1 (fVar 3) (fIfE (fTru (fBor 0)) (f2 gIxA (fBor 0) (fBor 3)) (fC (.int 0)))))
    (fSeq (fIf (fB (f2 gGe (fBor 4) (f2 gPow (fC (.int 10)) (fC (.int 18)))))
    (fSeq (fPutR 1 (fVar 3) (f2 gDiv (fBor 4) (fBor 2)))
    (fRet (f2 gMod (fBor 4) (fBor 2))))
    fNext)
    (fSeq (fAsg (.name 5) (f2 gMod (f2 gAdd (fBor 4) (f2 gMul (fC (.int 104729)) (fCount 1))) (fC (.int 4294967291))))
    (fSeq (fAsg (.name 5) (f2 gMod (f2 gPow (fBor 5) (fC (.int 5))) (fC (.int 4294967279))))
    (fRet (f2 gMod (f2 gDiv (f2 gMod (f2 gAdd (f2 gMul (f2 gDiv (fBor 5) (fC (.int 64))) (fC (.int 69621))) (fBor 5)) (fC (.int 4294967231))) (fC (.int 8))) (fBor 2)))))))))
def m__law_draw : List D → M D := mOf B__law_draw 6
def B__law_begun : Fs := fun n =>
    (fRet fTnew)
def m__law_begun : List D → M D := mOf B__law_begun 0
def B__law_hand : Fs := fun n =>
    (fSeq (fAsgO 2 (fSz .lst fNil))
    (fSeq (fFor (fRng rng2 (fCons (fC (.int 1)) (fCons (fC (.int 6)) fNil))) (.name 3)
    (fFor (fRng rng2 (fCons (f2 gAdd (fBor 3) (fC (.int 1))) (fCons (fC (.int 6)) fNil))) (.name 4)
    (fSeq (fAsg (.name 5) (f2 gAdd (fC (.int 1)) (fCallM m__law_draw 3 (fCons (fVar 0) (fCons (fVar 1) (fCons (f2 gAdd (fC (.int 3)) (f2 gMul (fC (.int 2)) (f2 gSub (fBor 4) (fBor 3)))) fNil))))))
    (fSeq (fAsg (.name 6) (fC (.int 1)))
    (fSeq (fIf (fB (f2 gEq (fBor 3) (fC (.int 1))))
    (fAsg (.name 6) (fN gMin2 (fCons (fBor 5) (fCons (f2 gSub (fC (.int 1)) (fCallM m__law_draw 3 (fCons (fVar 0) (fCons (fVar 1) (fCons (fC (.int 5)) fNil))))) fNil))))
    (fIf (fB (f2 gEq (fCallM m__law_draw 3 (fCons (fVar 0) (fCons (fVar 1) (fCons (fC (.int 4)) fNil)))) (fC (.int 0))))
    (fAsg (.name 6) (fN gMin2 (fCons (fBor 5) (fCons (fC (.int 2)) fNil))))
    fNext))
    (fApp 2 (fSz .tup (fCons (fVar 6) (fCons (fVar 5) fNil)))))))))
    (fRet (fSz .tup (fCons (fN gTuple (fCons (fBor 2) fNil)) (fCons (f2 gIxA (fSz .tup (fCons (fC (.int 0)) (fCons (fC (.int 0)) (fCons (fC (.int 1)) (fCons (fC (.int 2)) fNil))))) (fCallM m__law_draw 3 (fCons (fVar 0) (fCons (fVar 1) (fCons (fC (.int 4)) fNil))))) fNil))))))
def m__law_hand : List D → M D := mOf B__law_hand 7
def B__law_passage : Fs := fun n =>
    (fSeq (fPar [3, 4] (fCons (f2 gAdd (fC (.int 44)) (fCallM m__law_draw 3 (fCons (fVar 0) (fCons (fVar 1) (fCons (fC (.int 12)) fNil))))) (fCons (fSz .tup fNil) fNil)))
    (fSeq (fFor (fRng rng1 (fCons (fCallM m__law_draw 3 (fCons (fVar 0) (fCons (fVar 1) (fCons (f2 gAdd (fBor 2) (fC (.int 1))) fNil)))) fNil)) (.name 5)
    (fSeq (fAsg (.name 4) (f2 gAdd (fBor 4) (fSz .tup (fCons (fVar 3) fNil))))
    (fAsg (.name 3) (f2 gSub (f2 gAdd (fBor 3) (fCallM m__law_draw 3 (fCons (fVar 0) (fCons (fVar 1) (fCons (fC (.int 9)) fNil))))) (fC (.int 4))))))
    (fRet (fVar 4))))
def m__law_passage : List D → M D := mOf B__law_passage 6
def B_can_step : Fs := fun n =>
    (fSeq (fDrop (fCallM m_check_hand 1 (fCons (fVar 0) fNil)))
    (fSeq (fDrop (fCallM m_check_finger 1 (fCons (fVar 1) fNil)))
    (fSeq (fDrop (fCallM m_check_finger 1 (fCons (fVar 3) fNil)))
    (fSeq (fDrop (fCallM m_check_step 1 (fCons (fVar 2) fNil)))
    (fRet (fCallM m_does_step 4 (fCons (fVar 0) (fCons (fVar 1) (fCons (fVar 2) (fCons (fVar 3) fNil))))))))))
def m_can_step : List D → M D := mOf B_can_step 4
def B__law_does : Fs := fun n =>
    (fSeq (fIf (fB (f2 gEq (fBor 1) (fBor 3)))
    (fRet (fAndV (f2 gLe (fBor 2) (f2 gIxA (fBor 0) (fC (.int 1)))) (f2 gLe (f2 gSub (fC (.int 0)) (fBor 2)) (f2 gIxA (fBor 0) (fC (.int 1))))))
    fNext)
    (fSeq (fPar [4, 5, 6] (fCons (fN gMin2 (fCons (fBor 1) (fCons (fBor 3) fNil))) (fCons (fN gMax2 (fCons (fBor 1) (fCons (fBor 3) fNil))) (fCons (fC (.int 0)) fNil))))
    (fSeq (fFor (fRng rng2 (fCons (fC (.int 1)) (fCons (fC (.int 6)) fNil))) (.name 7)
    (fFor (fRng rng2 (fCons (f2 gAdd (fBor 7) (fC (.int 1))) (fCons (fC (.int 6)) fNil))) (.name 8)
    (fSeq (fIf (fB (f2 gEq (fSz .tup (fCons (fVar 7) (fCons (fVar 8) fNil))) (fSz .tup (fCons (fVar 4) (fCons (fVar 5) fNil)))))
    (fSeq (fAsg (.tup [(.name 9), (.name 10)]) (f2 gIxA (f2 gIxA (fBor 0) (fC (.int 0))) (fBor 6)))
    (fSeq (fAsg (.name 11) (fIfE (fB (f2 gEq (fBor 3) (fBor 5))) (fVar 2) (f2 gSub (fC (.int 0)) (fBor 2))))
    (fRet (fAndV (f2 gLe (fBor 9) (fBor 11)) (f2 gLe (fBor 11) (fBor 10))))))
    fNext)
    (fAsg (.name 6) (f2 gAdd (fBor 6) (fC (.int 1)))))))
    (fRet (fC (.bl false))))))
def m__law_does : List D → M D := mOf B__law_does 12
def B__law_after : Fs := fun n =>
    (fSeq (fAsgO 3 (fSz .lst fNil))
    (fSeq (fFor (fRng rng2 (fCons (fC (.int 1)) (fCons (fC (.int 6)) fNil))) (.name 4)
    (fIf (fB (f2 gNe (fLc (fItA (fVar 1)) (.name 5) (fTru (fCallM m__law_does 4 (fCons (fVar 0) (fCons (fVar 5) (fCons (fVar 2) (fCons (fVar 4) fNil)))))) (fVar 5) [5]) (fSz .lst fNil)))
    (fApp 3 (fVar 4))
    fNext))
    (fRet (fN gTuple (fCons (fBor 3) fNil)))))
def m__law_after : List D → M D := mOf B__law_after 6
def B_check_two : Fs := fun n =>
    (fSeq (fDrop (fCallM m_check_hand 1 (fCons (fVar 0) fNil)))
    (fDrop (fCallM m_check_hand 1 (fCons (fVar 1) fNil))))
def m_check_two : List D → M D := mOf B_check_two 2
def B_is_wider : Fs := fun n =>
    (fSeq (fDrop (fCallM m_check_two 2 (fCons (fVar 0) (fCons (fVar 1) fNil))))
    (fSeq (fFor (fItA (fC c_FINGERS)) (.name 2)
    (fFor (fItA (fC c_FINGERS)) (.name 3)
    (fSeq (fAsg (.name 4) (fLc (fRng rng2 (fCons (f1 gNeg (fC (.int 12))) (fCons (fC (.int 13)) fNil))) (.name 5) (fTru (fCallM m_does_step 4 (fCons (fVar 1) (fCons (fVar 2) (fCons (fVar 5) (fCons (fVar 3) fNil)))))) (fVar 5) [5]))
    (fIf (fNot (fTru (fN gAll (fCons (fLc (fItA (fVar 4)) (.name 5) (fun _ => M.ret true) (fCallM m_does_step 4 (fCons (fVar 0) (fCons (fVar 2) (fCons (fVar 5) (fCons (fVar 3) fNil))))) [5]) fNil))))
    (fRet (fC (.bl false)))
    fNext))))
    (fRet (fC (.bl true)))))
def m_is_wider : List D → M D := mOf B_is_wider 6
def B_check_both : Fs := fun n =>
    (fSeq (fDrop (fCallM m_check_hand 1 (fCons (fVar 0) fNil)))
    (fIf (fNot (fTru (fCallM m_is_passage 1 (fCons (fVar 1) fNil))))
    (fRaise .passage)
    fNext))
def m_check_both : List D → M D := mOf B_check_both 2
def B_steps_in : Fs := fun n =>
    (fRet (fLc (fRng zip2 (fCons (fVar 0) (fCons (fSl (fBor 0) (fPart (fC (.int 1))) fNoPart) fNil))) (.tup [(.name 1), (.name 2)]) (fun _ => M.ret true) (f2 gSub (fBor 2) (fBor 1)) [1, 2]))
def m_steps_in : List D → M D := mOf B_steps_in 3
def B_is_played : Fs := fun n =>
    (fSeq (fAsg (.name 3) (fN gLZ (fCons (fVar 2) (fCons (fVar 1) (fCons (fSl (fBor 2) (fPart (fC (.int 1))) fNoPart) fNil)))))
    (fRet (fN gAll (fCons (fLc (fItA (fVar 3)) (.tup [(.name 4), (.name 5), (.name 6)]) (fun _ => M.ret true) (fCallM m_does_step 4 (fCons (fVar 0) (fCons (fVar 4) (fCons (fVar 5) (fCons (fVar 6) fNil))))) [4, 5, 6]) fNil))))
def m_is_played : List D → M D := mOf B_is_played 7
def B_is_fingering_of : Fs := fun n =>
    (fSeq (fIf (fOr (fNot (fTru (fIsi "tuple" (fBor 2)))) (fOr (fB (f2 gNe (fN gLen (fCons (fBor 2) fNil)) (fN gLen (fCons (fBor 1) fNil)))) (fNot (fTru (fN gAll (fCons (fLc (fItA (fVar 2)) (.name 3) (fun _ => M.ret true) (fCallM m_is_between 3 (fCons (fVar 3) (fCons (fC (.int 1)) (fCons (fC (.int 5)) fNil)))) [3]) fNil))))))
    (fRet (fC (.bl false)))
    fNext)
    (fRet (fCallM m_is_played 3 (fCons (fVar 0) (fCons (fCallM m_steps_in 1 (fCons (fVar 1) fNil)) (fCons (fVar 2) fNil))))))
def m_is_fingering_of : List D → M D := mOf B_is_fingering_of 4
def B_is_fingering : Fs := fun n =>
    (fSeq (fDrop (fCallM m_check_both 2 (fCons (fVar 0) (fCons (fVar 1) fNil))))
    (fRet (fCallM m_is_fingering_of 3 (fCons (fVar 0) (fCons (fVar 1) (fCons (fVar 2) fNil))))))
def m_is_fingering : List D → M D := mOf B_is_fingering 3
def B_sets_along : Fs := fun n =>
    (fSeq (fAsgO 2 (fSz .lst (fCons (fC c_FINGERS) fNil)))
    (fSeq (fFor (fItA (fVar 1)) (.name 3)
    (fApp 2 (fCallM m_after_step 3 (fCons (fVar 0) (fCons (f2 gIxA (fBor 2) (f1 gNeg (fC (.int 1)))) (fCons (fVar 3) fNil))))))
    (fRetO 2)))
def m_sets_along : List D → M D := mOf B_sets_along 4
def B_count_fingerings : Fs := fun n =>
    (fSeq (fDrop (fCallM m_check_both 2 (fCons (fVar 0) (fCons (fVar 1) fNil))))
    (fSeq (fIf (fB (f2 gEq (fBor 1) (fSz .tup fNil)))
    (fRet (fC (.int 1)))
    fNext)
    (fSeq (fAsgO 2 (fDc (fItA (fC c_FINGERS)) (.name 4) (fun _ => M.ret true) (fVar 4) (fC (.int 1)) [4]))
    (fSeq (fFor (fItA (fCallM m_steps_in 1 (fCons (fVar 1) fNil))) (.name 3)
    (fAsgO 2 (fDc (fItA (fC c_FINGERS)) (.name 5) (fun _ => M.ret true) (fVar 5) (fN gSum (fCons (fLc (fItA (fC c_FINGERS)) (.name 6) (fTru (fCallM m_does_step 4 (fCons (fVar 0) (fCons (fVar 6) (fCons (fVar 3) (fCons (fVar 5) fNil)))))) (f2 gDget (fBor 2) (fBor 6)) [6]) fNil)) [5])))
    (fRet (fN gSum (fCons (fVals 2) fNil)))))))
def m_count_fingerings : List D → M D := mOf B_count_fingerings 7
def B_can_play : Fs := fun n =>
    (fSeq (fDrop (fCallM m_check_both 2 (fCons (fVar 0) (fCons (fVar 1) fNil))))
    (fRet (fOrV (f2 gEq (fBor 1) (fSz .tup fNil)) (f2 gNe (f2 gIxA (fCallM m_sets_along 2 (fCons (fVar 0) (fCons (fCallM m_steps_in 1 (fCons (fVar 1) fNil)) fNil))) (f1 gNeg (fC (.int 1)))) (fSz .tup fNil)))))
def m_can_play : List D → M D := mOf B_can_play 2
def B_sets_back : Fs := fun n =>
    (fRet (f1 revD (fCallM m_sets_along 2 (fCons (fVar 0) (fCons (fLc (fItA (f1 revD (fBor 1))) (.name 2) (fun _ => M.ret true) (f2 gSub (fC (.int 0)) (fBor 2)) [2]) fNil)))))
def m_sets_back : List D → M D := mOf B_sets_back 3
def B_first_of : Fs := fun n =>
    (fSeq (fParO 3 4 (fCallM m_sets_back 2 (fCons (fVar 0) (fCons (fVar 1) fNil))) (fSz .lst fNil))
    (fSeq (fAsg (.name 5) (fLc (fItA (fVar 2)) (.name 7) (fB (f2 gIn (fBor 7) (f2 gIxA (fBor 3) (fC (.int 0))))) (fVar 7) [7]))
    (fSeq (fFor (fRng rng1 (fCons (f2 gAdd (fN gLen (fCons (fBor 1) fNil)) (fC (.int 1))) fNil)) (.name 6)
    (fSeq (fIf (fB (f2 gEq (fBor 5) (fSz .lst fNil)))
    (fRet (fC .non))
    fNext)
    (fSeq (fApp 4 (f2 gIxA (fBor 5) (fC (.int 0))))
    (fIf (fB (f2 gLt (fBor 6) (fN gLen (fCons (fBor 1) fNil))))
    (fAsg (.name 5) (fLc (fItA (fCallM m_after_step 3 (fCons (fVar 0) (fCons (fSl (fBor 4) (fPart (f1 gNeg (fC (.int 1)))) fNoPart) (fCons (f2 gIxA (fBor 1) (fBor 6)) fNil))))) (.name 8) (fB (f2 gIn (fBor 8) (f2 gIxA (fBor 3) (f2 gAdd (fBor 6) (fC (.int 1)))))) (fVar 8) [8]))
    fNext))))
    (fRet (fN gTuple (fCons (fBor 4) fNil))))))
def m_first_of : List D → M D := mOf B_first_of 9
def B_first_fingering : Fs := fun n =>
    (fSeq (fDrop (fCallM m_check_both 2 (fCons (fVar 0) (fCons (fVar 1) fNil))))
    (fRet (fIfE (fB (f2 gNe (fBor 1) (fSz .tup fNil))) (fCallM m_first_of 3 (fCons (fVar 0) (fCons (fCallM m_steps_in 1 (fCons (fVar 1) fNil)) (fCons (fC c_FINGERS) fNil)))) (fSz .tup fNil))))
def m_first_fingering : List D → M D := mOf B_first_fingering 2
def B_stuck_at : Fs := fun n =>
    (fSeq (fDrop (fCallM m_check_both 2 (fCons (fVar 0) (fCons (fVar 1) fNil))))
    (fSeq (fFor (fRng enumA (fCons (fCallM m_sets_along 2 (fCons (fVar 0) (fCons (fCallM m_steps_in 1 (fCons (fVar 1) fNil)) fNil))) fNil)) (.tup [(.name 2), (.name 3)])
    (fIf (fB (f2 gEq (fBor 3) (fSz .tup fNil)))
    (fRet (f2 gAdd (fBor 2) (fC (.int 1))))
    fNext))
    (fRet (fC .non))))
def m_stuck_at : List D → M D := mOf B_stuck_at 4
def B_fingers_at : Fs := fun n =>
    (fSeq (fDrop (fCallM m_check_both 2 (fCons (fVar 0) (fCons (fVar 1) fNil))))
    (fSeq (fIf (fNot (fTru (fCallM m_is_between 3 (fCons (fVar 2) (fCons (fC (.int 0)) (fCons (f2 gSub (fN gLen (fCons (fBor 1) fNil)) (fC (.int 1))) fNil))))))
    (fRaise .place)
    fNext)
    (fSeq (fAsg (.name 3) (fCallM m_steps_in 1 (fCons (fVar 1) fNil)))
    (fSeq (fAsg (.tup [(.name 4), (.name 5)]) (fSz .tup (fCons (f2 gIxA (fCallM m_sets_along 2 (fCons (fVar 0) (fCons (fVar 3) fNil))) (fBor 2)) (fCons (f2 gIxA (fCallM m_sets_back 2 (fCons (fVar 0) (fCons (fVar 3) fNil))) (fBor 2)) fNil))))
    (fRet (fN gTuple (fCons (fLc (fItA (fVar 4)) (.name 6) (fB (f2 gIn (fBor 6) (fBor 5))) (fVar 6) [6]) fNil)))))))
def m_fingers_at : List D → M D := mOf B_fingers_at 7
def B__law_all : Fs := fun n =>
    (fSeq (fAsg (.name 2) (fSz .lst (fCons (fSz .tup fNil) fNil)))
    (fSeq (fFor (fRng rng1 (fCons (fN gLen (fCons (fBor 1) fNil)) fNil)) (.name 3)
    (fSeq (fParO 4 5 (f2 gSub (f2 gIxA (fBor 1) (fBor 3)) (f2 gIxA (fBor 1) (fN gMax2 (fCons (f2 gSub (fBor 3) (fC (.int 1))) (fCons (fC (.int 0)) fNil))))) (fSz .lst fNil))
    (fSeq (fFor (fItA (fVar 2)) (.name 6)
    (fFor (fRng rng2 (fCons (fC (.int 1)) (fCons (fC (.int 6)) fNil))) (.name 7)
    (fIf (fOr (fB (f2 gEq (fBor 3) (fC (.int 0)))) (fTru (fCallM m__law_does 4 (fCons (fVar 0) (fCons (f2 gIxA (fBor 6) (f1 gNeg (fC (.int 1)))) (fCons (fVar 4) (fCons (fVar 7) fNil)))))))
    (fApp 5 (f2 gAdd (fBor 6) (fSz .tup (fCons (fVar 7) fNil))))
    fNext)))
    (fMove 2 5))))
    (fRet (fVar 2))))
def m__law_all : List D → M D := mOf B__law_all 8
def B_does_cross : Fs := fun n =>
    (fRet (fAndV (f2 gNe (fBor 0) (fBor 2)) (f2 gLt (fIfE (fB (f2 gGtI (fBor 2) (fBor 0))) (fVar 1) (f2 gSub (fC (.int 0)) (fBor 1))) (fC (.int 0)))))
def m_does_cross : List D → M D := mOf B_does_cross 3
def B_crossings_of : Fs := fun n =>
    (fRet (fN gLen (fCons (fLc (fRng zip3 (fCons (fVar 1) (fCons (fVar 0) (fCons (fSl (fBor 1) (fPart (fC (.int 1))) fNoPart) fNil)))) (.tup [(.name 2), (.name 3), (.name 4)]) (fTru (fCallM m_does_cross 3 (fCons (fVar 2) (fCons (fVar 3) (fCons (fVar 4) fNil))))) (fC (.int 1)) [2, 3, 4]) fNil)))
def m_crossings_of : List D → M D := mOf B_crossings_of 5
def B_crossings : Fs := fun n =>
    (fSeq (fDrop (fCallM m_check_both 2 (fCons (fVar 0) (fCons (fVar 1) fNil))))
    (fSeq (fIf (fNot (fTru (fCallM m_is_fingering_of 3 (fCons (fVar 0) (fCons (fVar 1) (fCons (fVar 2) fNil))))))
    (fRaise .fingering)
    fNext)
    (fRet (fCallM m_crossings_of 2 (fCons (fCallM m_steps_in 1 (fCons (fVar 1) fNil)) (fCons (fVar 2) fNil))))))
def m_crossings : List D → M D := mOf B_crossings 3
def B_best_of : Fs := fun n =>
    (fSeq (fIf (fB (f2 gEq (fBor 1) (fSz .tup fNil)))
    (fRet (fSz .tup (fCons (fC (.int 0)) (fCons (fSz .tup fNil) fNil))))
    fNext)
    (fSeq (fAsg (.name 2) (fLc (fItA (fC c_FINGERS)) (.name 8) (fun _ => M.ret true) (fSz .tup (fCons (fC (.int 0)) (fCons (fSz .tup (fCons (fVar 8) fNil)) fNil))) [8]))
    (fSeq (fFor (fItA (fCallM m_steps_in 1 (fCons (fVar 1) fNil))) (.name 3)
    (fSeq (fAsg (.name 4) (fSz .lst fNil))
    (fSeq (fFor (fItA (fC c_FINGERS)) (.name 5)
    (fSeq (fAsg (.name 6) (fLc (fItA (fVar 2)) (.tup [(.name 9), (.name 10)]) (fTru (fCallM m_does_step 4 (fCons (fVar 0) (fCons (f2 gIxA (fBor 10) (f1 gNeg (fC (.int 1)))) (fCons (fVar 3) (fCons (fVar 5) fNil)))))) (fSz .tup (fCons (fVar 9) (fCons (fVar 10) fNil))) [9, 10]))
    (fSeq (fAsg (.name 7) (fLc (fItA (fVar 6)) (.tup [(.name 9), (.name 10)]) (fun _ => M.ret true) (fSz .tup (fCons (f2 gAdd (fBor 9) (fIfE (fTru (fCallM m_does_cross 3 (fCons (f2 gIxA (fBor 10) (f1 gNeg (fC (.int 1)))) (fCons (fVar 3) (fCons (fVar 5) fNil))))) (fC (.int 1)) (fC (.int 0)))) (fCons (f2 gAdd (fBor 10) (fSz .tup (fCons (fVar 5) fNil))) fNil))) [9, 10]))
    (fAsg (.name 4) (f2 gAdd (fBor 4) (fIfE (fB (f2 gNe (fBor 7) (fSz .lst fNil))) (fSz .lst (fCons (fN gMinL (fCons (fBor 7) fNil)) fNil)) (fSz .lst fNil)))))))
    (fAsg (.name 2) (fVar 4)))))
    (fRet (fIfE (fB (f2 gNe (fBor 2) (fSz .lst fNil))) (fN gMinL (fCons (fBor 2) fNil)) (fC .non))))))
def m_best_of : List D → M D := mOf B_best_of 11
def B_fewest_crossings : Fs := fun n =>
    (fSeq (fDrop (fCallM m_check_both 2 (fCons (fVar 0) (fCons (fVar 1) fNil))))
    (fSeq (fAsg (.name 2) (fCallM m_best_of 2 (fCons (fVar 0) (fCons (fVar 1) fNil))))
    (fRet (fIfE (fB (f2 gIsNot (fBor 2) (fC .non))) (f2 gIxA (fBor 2) (fC (.int 0))) (fC .non)))))
def m_fewest_crossings : List D → M D := mOf B_fewest_crossings 3
def B_best_fingering : Fs := fun n =>
    (fSeq (fDrop (fCallM m_check_both 2 (fCons (fVar 0) (fCons (fVar 1) fNil))))
    (fSeq (fAsg (.name 2) (fCallM m_best_of 2 (fCons (fVar 0) (fCons (fVar 1) fNil))))
    (fRet (fIfE (fB (f2 gIsNot (fBor 2) (fC .non))) (f2 gIxA (fBor 2) (fC (.int 1))) (fC .non)))))
def m_best_fingering : List D → M D := mOf B_best_fingering 3
def B_check_keys : Fs := fun n =>
    (fSeq (fDrop (fCallM m_check_hand 1 (fCons (fVar 0) fNil)))
    (fSeq (fIf (fOr (fNot (fTru (fIsi "tuple" (fBor 1)))) (fOr (fNot (fB (fChain gLe gLe (fC (.int 1)) (fN gLen (fCons (fBor 1) fNil)) (fC (.int 5))))) (fNot (fTru (fN gAll (fCons (fLc (fItA (fVar 1)) (.name 2) (fun _ => M.ret true) (fCallM m_is_note 1 (fCons (fVar 2) fNil)) [2]) fNil))))))
    (fRaise .keys)
    fNext)
    (fIf (fNot (fTru (fN gAll (fCons (fLc (fRng zip2 (fCons (fVar 1) (fCons (fSl (fBor 1) (fPart (fC (.int 1))) fNoPart) fNil))) (.tup [(.name 2), (.name 3)]) (fun _ => M.ret true) (f2 gLt (fBor 2) (fBor 3)) [2, 3]) fNil))))
    (fRaise .keys)
    fNext)))
def m_check_keys : List D → M D := mOf B_check_keys 4
def B_is_pattern : Fs := fun n =>
    (fRet (fAndV (fIsi "tuple" (fBor 0)) (fAndV (fChain gLe gLe (fC (.int 1)) (fN gLen (fCons (fBor 0) fNil)) (fC (.int 8))) (fN gAll (fCons (fLc (fItA (fVar 0)) (.name 1) (fun _ => M.ret true) (fCallM m_is_between 3 (fCons (fVar 1) (fCons (f1 gNeg (fC (.int 12))) (fCons (fC (.int 12)) fNil)))) [1]) fNil)))))
def m_is_pattern : List D → M D := mOf B_is_pattern 2
def B_check_pattern : Fs := fun n =>
    (fSeq (fDrop (fCallM m_check_hand 1 (fCons (fVar 0) fNil)))
    (fIf (fNot (fTru (fCallM m_is_pattern 1 (fCons (fVar 1) fNil))))
    (fRaise .pattern)
    fNext))
def m_check_pattern : List D → M D := mOf B_check_pattern 2
def B_turned : Fs := fun n =>
    (fSeq (fFor (fItA (fVar 1)) (.name 3)
    (fAsg (.name 2) (fCallM m_after_step 3 (fCons (fVar 0) (fCons (fVar 2) (fCons (fVar 3) fNil))))))
    (fRet (fVar 2)))
def m_turned : List D → M D := mOf B_turned 4
def B_turns_of : Fs := fun n =>
    (fSeq (fPar [2, 3] (fCons (fCallM m_turned 3 (fCons (fVar 0) (fCons (fVar 1) (fCons (fC c_FINGERS) fNil)))) (fCons (fC (.int 0)) fNil)))
    (fSeq (whileF (fAnd (fB (f2 gNe (fBor 2) (fSz .tup fNil))) (fB (f2 gLt (fBor 3) (fC (.int 5)))))
    (fPar [2, 3] (fCons (fCallM m_turned 3 (fCons (fVar 0) (fCons (fVar 1) (fCons (fVar 2) fNil)))) (fCons (f2 gAdd (fBor 3) (fC (.int 1))) fNil))) n)
    (fRet (fVar 3))))
def m_turns_of : List D → M D := mOf B_turns_of 4
def B_can_repeat : Fs := fun n =>
    (fSeq (fDrop (fCallM m_check_pattern 2 (fCons (fVar 0) (fCons (fVar 1) fNil))))
    (fSeq (fIf (fNot (fTru (fCallM m_is_between 3 (fCons (fVar 2) (fCons (fC (.int 1)) (fCons (fC (.int 99)) fNil))))))
    (fRaise .times)
    fNext)
    (fRet (f2 gGe (fCallM m_turns_of 2 (fCons (fVar 0) (fCons (fVar 1) fNil))) (fN gMin2 (fCons (fBor 2) (fCons (fC (.int 5)) fNil)))))))
def m_can_repeat : List D → M D := mOf B_can_repeat 3
def B_is_endless : Fs := fun n =>
    (fSeq (fDrop (fCallM m_check_pattern 2 (fCons (fVar 0) (fCons (fVar 1) fNil))))
    (fRet (f2 gEq (fCallM m_turns_of 2 (fCons (fVar 0) (fCons (fVar 1) fNil))) (fC (.int 5)))))
def m_is_endless : List D → M D := mOf B_is_endless 2
def B_most_turns : Fs := fun n =>
    (fSeq (fDrop (fCallM m_check_pattern 2 (fCons (fVar 0) (fCons (fVar 1) fNil))))
    (fSeq (fAsg (.name 2) (fCallM m_turns_of 2 (fCons (fVar 0) (fCons (fVar 1) fNil))))
    (fRet (fIfE (fB (f2 gLt (fBor 2) (fC (.int 5)))) (fVar 2) (fC .non)))))
def m_most_turns : List D → M D := mOf B_most_turns 3
def B_sets_back_to : Fs := fun n =>
    (fSeq (fAsgO 3 (fSz .lst (fCons (fSz .tup (fCons (fVar 2) fNil)) fNil)))
    (fSeq (fFor (fItA (f1 revD (fBor 1))) (.name 4)
    (fApp 3 (fCallM m_after_step 3 (fCons (fVar 0) (fCons (f2 gIxA (fBor 3) (f1 gNeg (fC (.int 1)))) (fCons (f2 gSub (fC (.int 0)) (fBor 4)) fNil))))))
    (fRet (f1 revD (fBor 3)))))
def m_sets_back_to : List D → M D := mOf B_sets_back_to 5
def B_closed_of : Fs := fun n =>
    (fSeq (fFor (fItA (fC c_FINGERS)) (.name 2)
    (fSeq (fAsg (.tup [(.name 3), (.name 4)]) (fSz .tup (fCons (fSz .tup (fCons (fVar 2) fNil)) (fCons (fCallM m_sets_back_to 3 (fCons (fVar 0) (fCons (fVar 1) (fCons (fVar 2) fNil)))) fNil))))
    (fIf (fB (f2 gIn (fBor 2) (f2 gIxA (fBor 4) (fC (.int 0)))))
    (fSeq (fFor (fRng enumA (fCons (fVar 1) fNil)) (.tup [(.name 5), (.name 6)])
    (fSeq (fAsg (.name 7) (fLc (fItA (fCallM m_after_step 3 (fCons (fVar 0) (fCons (fSl (fBor 3) (fPart (f1 gNeg (fC (.int 1)))) fNoPart) (fCons (fVar 6) fNil))))) (.name 8) (fB (f2 gIn (fBor 8) (f2 gIxA (fBor 4) (f2 gAdd (fBor 5) (fC (.int 1)))))) (fVar 8) [8]))
    (fAsg (.name 3) (f2 gAdd (fBor 3) (fSz .tup (fCons (f2 gIxA (fBor 7) (fC (.int 0))) fNil))))))
    (fRet (fVar 3)))
    fNext)))
    (fRet (fC .non)))
def m_closed_of : List D → M D := mOf B_closed_of 9
def B_loop : Fs := fun n =>
    (fSeq (fDrop (fCallM m_check_pattern 2 (fCons (fVar 0) (fCons (fVar 1) fNil))))
    (fSeq (fFor (fRng rng2 (fCons (fC (.int 1)) (fCons (fC (.int 6)) fNil))) (.name 2)
    (fSeq (fAsg (.name 3) (fCallM m_closed_of 2 (fCons (fVar 0) (fCons (f2 gMul (fBor 1) (fBor 2)) fNil))))
    (fIf (fB (f2 gIsNot (fBor 3) (fC .non)))
    (fRet (fSl (fBor 3) fNoPart (fPart (f1 gNeg (fC (.int 1))))))
    fNext)))
    (fRet (fC .non))))
def m_loop : List D → M D := mOf B_loop 4
def B__law_pattern : Fs := fun n =>
    (fRet (fN gTuple (fCons (fLc (fRng rng1 (fCons (f2 gAdd (fC (.int 1)) (fCallM m__law_draw 3 (fCons (fVar 0) (fCons (fVar 1) (fCons (fVar 2) fNil))))) fNil)) (.name 3) (fun _ => M.ret true) (f2 gSub (fCallM m__law_draw 3 (fCons (fVar 0) (fCons (fVar 1) (fCons (fC (.int 9)) fNil)))) (fC (.int 4))) [3]) fNil)))
def m__law_pattern : List D → M D := mOf B__law_pattern 4
def B_is_loop : Fs := fun n =>
    (fSeq (fDrop (fCallM m_check_pattern 2 (fCons (fVar 0) (fCons (fVar 1) fNil))))
    (fSeq (fIf (fOr (fNot (fTru (fIsi "tuple" (fBor 2)))) (fOr (fB (f2 gEq (fBor 2) (fSz .tup fNil))) (fB (f2 gNe (f2 gMod (fN gLen (fCons (fBor 2) fNil)) (fN gLen (fCons (fBor 1) fNil))) (fC (.int 0))))))
    (fRet (fC (.bl false)))
    fNext)
    (fSeq (fIf (fNot (fTru (fN gAll (fCons (fLc (fItA (fVar 2)) (.name 3) (fun _ => M.ret true) (fCallM m_is_between 3 (fCons (fVar 3) (fCons (fC (.int 1)) (fCons (fC (.int 5)) fNil)))) [3]) fNil))))
    (fRet (fC (.bl false)))
    fNext)
    (fRet (fCallM m_is_played 3 (fCons (fVar 0) (fCons (f2 gMul (fBor 1) (f2 gDiv (fN gLen (fCons (fBor 2) fNil)) (fN gLen (fCons (fBor 1) fNil)))) (fCons (f2 gAdd (fBor 2) (fSl (fBor 2) fNoPart (fPart (fC (.int 1))))) fNil))))))))
def m_is_loop : List D → M D := mOf B_is_loop 4
def B__wall : Fs := fun n =>
    (whileF (fTru (fC (.bl true)))
    fNext n)
def m__wall : List D → M D := mOf B__wall 1
end KF
set_option maxHeartbeats 1000000
/-! KM1: running the functions, plain. -/
namespace KF
open L2
/-! ### the machine's laws -/
def Res.bd {α β : Type} (r : Res α) (k : α → Tau → Res β) : Res β := match r with
  | .ok a t => k a t
  | .exc c t => .exc c t
  | .stuck => .stuck
@[simp] theorem bd_ok {α β : Type} (a : α) (t : Tau) (k : α → Tau → Res β) : (Res.ok a t).bd k = k a t := rfl
@[simp] theorem bd_exc {α β : Type} (c : XC) (t : Tau) (k : α → Tau → Res β) : (Res.exc c t : Res α).bd k = .exc c t := rfl
@[simp] theorem bd_stuck {α β : Type} (k : α → Tau → Res β) : (Res.stuck : Res α).bd k = .stuck := rfl
@[simp] theorem bd_assoc {α β γ : Type} (r : Res α) (k : α → Tau → Res β) (l : β → Tau → Res γ) : (r.bd k).bd l = r.bd fun a t => (k a t).bd l := by cases r <;> rfl
@[simp] theorem bd_ite {α β : Type} (c : Prop) [Decidable c] (x y : Res α) (k : α → Tau → Res β) : (if c then x else y).bd k = if c then x.bd k else y.bd k := by split <;> rfl
@[simp] theorem bnd_r {α β : Type} (m : M α) (k : α → M β) (τ : Tau) : M.bnd m k τ = (m τ).bd fun a t => k a t := by
  unfold M.bnd Res.bd
  cases m τ <;> rfl
@[simp] theorem ret_r {α : Type} (a : α) (τ : Tau) : M.ret a τ = .ok a τ := rfl
@[simp] theorem opt_some_r {α : Type} (a : α) (τ : Tau) : M.opt (some a) τ = .ok a τ := rfl
@[simp] theorem opt_none_r {α : Type} (τ : Tau) : (M.opt none : M α) τ = .stuck := rfl
@[simp] theorem raise_r {α : Type} (x : XC) (τ : Tau) : (M.raise x : M α) τ = .exc x τ := rfl
@[simp] theorem fail_r {α : Type} (τ : Tau) : (M.fail : M α) τ = .stuck := rfl
@[simp] theorem ite_r {α : Type} (c : Prop) [Decidable c] (a b : M α) (τ : Tau) : (if c then a else b) τ = if c then a τ else b τ := by split <;> rfl
@[simp] theorem noX_r {α : Type} (m : M α) (τ : Tau) : noX m τ = match m τ with | .exc _ _ => .stuck | r => r := rfl
section
variable (ρ : En) (τ : Tau)
@[simp] theorem fC_r (d : D) : fC d ρ τ = .ok d τ := rfl
@[simp] theorem fVar_r (i : Nat) : fVar i ρ τ = M.opt (match ρ[i]? with | some (.fz d) => some d | _ => none) τ := rfl
@[simp] theorem fBor_r (i : Nat) : fBor i ρ τ = M.opt (match ρ[i]? with | some (.fz d) => some d | some (.ow d) => some d | _ => none) τ := rfl
@[simp] theorem fNil_r : fNil ρ τ = .ok [] τ := rfl
@[simp] theorem fCons_r (fa : Fe) (fr : Fa) : fCons fa fr ρ τ = (fa ρ τ).bd fun x t => (fr ρ t).bd fun xs t => .ok (x :: xs) t := by simp [fCons]
@[simp] theorem f2_r (g : D → D → Option D) (fa fb : Fe) : f2 g fa fb ρ τ = (fa ρ τ).bd fun x t => (fb ρ t).bd fun y t => M.opt (g x y) t := by simp [f2]
@[simp] theorem f1_r (g : D → Option D) (fa : Fe) : f1 g fa ρ τ = (fa ρ τ).bd fun x t => M.opt (g x) t := by simp [f1]
@[simp] theorem fN_r (g : List D → Option D) (fa : Fa) : fN g fa ρ τ = (fa ρ τ).bd fun x t => M.opt (g x) t := by simp [fN]
@[simp] theorem fB_r (f : Fe) : fB f ρ τ = (f ρ τ).bd fun x t => toB x t := by simp [fB]
@[simp] theorem toB_r (b : Bool) : toB (.bl b) τ = .ok b τ := rfl
@[simp] theorem fTru_r (f : Fe) : fTru f ρ τ = (f ρ τ).bd fun x t => M.opt (truD x) t := by simp [fTru]
@[simp] theorem fNot_r (f : Ft) : fNot f ρ τ = (f ρ τ).bd fun b t => .ok (!b) t := by simp [fNot]
@[simp] theorem fAnd_r (f g : Ft) : fAnd f g ρ τ = (f ρ τ).bd fun b t => if b = true then g ρ t else .ok false t := by simp [fAnd]
@[simp] theorem fOr_r (f g : Ft) : fOr f g ρ τ = (f ρ τ).bd fun b t => if b = true then .ok true t else g ρ t := by simp [fOr]
@[simp] theorem fAndV_r (f g : Fe) : fAndV f g ρ τ = ((f ρ τ).bd fun x t => toB x t).bd fun b t => if b = true then g ρ t else .ok (.bl false) t := by simp [fAndV]
@[simp] theorem fOrV_r (f g : Fe) : fOrV f g ρ τ = ((f ρ τ).bd fun x t => toB x t).bd fun b t => if b = true then .ok (.bl true) t else g ρ t := by simp [fOrV]
@[simp] theorem fNotV_r (f : Fe) : fNotV f ρ τ = ((f ρ τ).bd fun x t => toB x t).bd fun b t => .ok (.bl (!b)) t := by simp [fNotV]
@[simp] theorem fIfE_r (t : Ft) (f g : Fe) : fIfE t f g ρ τ = (t ρ τ).bd fun b t => if b = true then f ρ t else g ρ t := by simp [fIfE]
@[simp] theorem fChain_r (g g' : D → D → Option D) (fa fb fc : Fe) : fChain g g' fa fb fc ρ τ = (fa ρ τ).bd fun x t => (fb ρ t).bd fun y t => (M.opt (g x y) t).bd fun z t => (toB z t).bd fun k t => if k = true then (fc ρ t).bd fun w t => M.opt (g' y w) t else .ok (.bl false) t := by simp [fChain]
@[simp] theorem fIsi_r (T : String) (fa : Fe) : fIsi T fa ρ τ = (fa ρ τ).bd fun x t => M.opt (isiD T x) t := by simp [fIsi]
@[simp] theorem fSz_r (g : List D → D) (fa : Fa) : fSz g fa ρ τ = (fa ρ τ).bd fun ds t => if ds.length ≤ SZ then .ok (g ds) t else .stuck := by simp [fSz]
@[simp] theorem fPart_r (f : Fe) : fPart f ρ τ = (f ρ τ).bd fun d t => (M.opt (intD d) t).bd fun i t => .ok (some i) t := by simp [fPart]
@[simp] theorem fNoPart_r : fNoPart ρ τ = .ok none τ := rfl
@[simp] theorem fSl_r (fa : Fe) (fl fu : En → M (Option Int)) : fSl fa fl fu ρ τ = (fa ρ τ).bd fun d t => (fl ρ t).bd fun lo t => (fu ρ t).bd fun hi t => M.opt (gSl d lo hi) t := by simp [fSl]
@[simp] theorem fIdxC_r (c : List D) (fa : Fe) : fIdxC c fa ρ τ = (fa ρ τ).bd fun d t => M.opt (if okd 32 d = true ∧ okd 32 (.tup c) = true then (idxD d c).map fun j => .int (j : Nat) else none) t := by simp [fIdxC]
@[simp] theorem fItA_r (f : Fe) : fItA f ρ τ = (f ρ τ).bd fun d t => M.opt (items0 d) t := by simp [fItA]
@[simp] theorem fRng_r (g : List D → Option (List D)) (fa : Fa) : fRng g fa ρ τ = (fa ρ τ).bd fun ds t => M.opt (g ds) t := by simp [fRng]
@[simp] theorem fCallM_r (m : List D → M D) (n : Nat) (fa : Fa) : fCallM m n fa ρ τ = (fa ρ τ).bd fun ds t => if ds.length = n then m ds t else .stuck := by simp [fCallM]
@[simp] theorem fSeq_r (f g : En → M Out) : fSeq f g ρ τ = (f ρ τ).bd fun o t => seqK g o t := by simp [fSeq]
@[simp] theorem seqK_next (g : En → M Out) (ρ : En) : seqK g (.next ρ) τ = g ρ τ := rfl
@[simp] theorem seqK_ret (g : En → M Out) (d : D) : seqK g (.ret d) τ = .ok (.ret d) τ := rfl
@[simp] theorem seqK_brk (g : En → M Out) (ρ : En) : seqK g (.brk ρ) τ = .ok (.brk ρ) τ := rfl
@[simp] theorem seqK_cont (g : En → M Out) (ρ : En) : seqK g (.cont ρ) τ = .ok (.cont ρ) τ := rfl
@[simp] theorem fNext_r : fNext ρ τ = .ok (.next ρ) τ := rfl
@[simp] theorem fCont_r : fCont ρ τ = .ok (.cont ρ) τ := rfl
@[simp] theorem fRaise_r (x : XC) : fRaise x ρ τ = .exc x τ := rfl
@[simp] theorem fIf_r (t : Ft) (f g : En → M Out) : fIf t f g ρ τ = (t ρ τ).bd fun b t => if b = true then f ρ t else g ρ t := by simp [fIf]
@[simp] theorem fRet_r (f : Fe) : fRet f ρ τ = (f ρ τ).bd fun d t => .ok (.ret d) t := by simp [fRet]
@[simp] theorem fRetO_r (i : Nat) : fRetO i ρ τ = (M.opt (match ρ[i]? with | some (.ow d) => if notDic d = true then some d else none | _ => none) τ).bd fun d t => .ok (.ret d) t := by simp [fRetO, frzOf] <;> rfl
@[simp] theorem fDrop_r (f : Fe) : fDrop f ρ τ = (f ρ τ).bd fun _ t => .ok (.next ρ) t := by simp [fDrop]
@[simp] theorem fAsg_r (t : Tg) (f : Fe) : fAsg t f ρ τ = (f ρ τ).bd fun d u => (M.opt (bindD t d ρ) u).bd fun ρ' u => .ok (.next ρ') u := by simp [fAsg]
@[simp] theorem fAsgO_r (i : Nat) (f : Fe) : fAsgO i f ρ τ = (f ρ τ).bd fun d t => .ok (.next (ρ.set i (.ow d))) t := by simp [fAsgO]
@[simp] theorem notDic_lst (l : List D) : notDic (.lst l) = true := rfl
@[simp] theorem fMove_r (i j : Nat) : fMove i j ρ τ = (M.opt (match ρ[j]? with | some (.ow d) => if notDic d = true then some d else none | _ => none) τ).bd fun d t => .ok (.next ((ρ.set j .un).set i (.fz d))) t := by simp [fMove, frzOf] <;> rfl
@[simp] theorem fApp_r (i : Nat) (f : Fe) : fApp i f ρ τ = (M.opt ((ρ[i]?).bind lstOf) τ).bd fun ds t => (f ρ t).bd fun d t => if ds.length < SZ then .ok (.next (ρ.set i (.ow (.lst (ds ++ [d]))))) t else .stuck := by simp [fApp]
@[simp] theorem fPar_r (is : List Nat) (fa : Fa) : fPar is fa ρ τ = (fa ρ τ).bd fun ds t => (M.opt (setsE ρ is ds) t).bd fun ρ' t => .ok (.next ρ') t := by simp [fPar]
@[simp] theorem fParO_r (i j : Nat) (fa fb : Fe) : fParO i j fa fb ρ τ = (fa ρ τ).bd fun d t => (fb ρ t).bd fun e t => .ok (.next ((ρ.set i (.fz d)).set j (.ow e))) t := by simp [fParO]
@[simp] theorem fFor_r (fi : En → M (List D)) (t : Tg) (body : En → M Out) : fFor fi t body ρ τ = (fi ρ τ).bd fun ds u => loopF t body ds ρ u := by simp [fFor]
@[simp] theorem fCount_r (i : Nat) : fCount i ρ τ = (fVar i ρ τ).bd fun d t => (townOf d t).bd fun x t => .ok (.int x.2.1) t := by simp [fCount]
@[simp] theorem fRest_r (i : Nat) (fa fd : Fe) : fRest i fa fd ρ τ = (fVar i ρ τ).bd fun d t => (townOf d t).bd fun _ t => (fa ρ t).bd fun a t => (M.opt (intD a) t).bd fun k t => (fd ρ t).bd fun z t => (M.opt (intD z) t).bd fun v t => (townOf d t).bd fun x t => .ok (.int ((lookR x.2.2 k).getD v)) t := by simp [fRest]
@[simp] theorem fPutC_r (i : Nat) (f : Fe) : fPutC i f ρ τ = (f ρ τ).bd fun e t => (M.opt (intD e) t).bd fun v t => (fVar i ρ t).bd fun d t => (townOf d t).bd fun x t => (putTown x.1 v x.2.2 t).bd fun _ t => .ok (.next ρ) t := by simp [fPutC]
@[simp] theorem fPutR_r (i : Nat) (fa f : Fe) : fPutR i fa f ρ τ = (f ρ τ).bd fun e t => (M.opt (intD e) t).bd fun v t => (fVar i ρ t).bd fun d t => (townOf d t).bd fun _ t => (fa ρ t).bd fun a t => (M.opt (intD a) t).bd fun k t => (townOf d t).bd fun x t => if x.2.2.length < SZ then (putTown x.1 x.2.1 (putR x.2.2 k v) t).bd fun _ t => .ok (.next ρ) t else .stuck := by simp [fPutR]
@[simp] theorem fTnew_r : fTnew ρ τ = .ok (.obj τ.length) (τ ++ [.town 0 []]) := rfl
@[simp] theorem outD_ret (d : D) : outD (.ret d) τ = .ok d τ := rfl
@[simp] theorem outD_next (ρ : En) : outD (.next ρ) τ = .ok .non τ := rfl
end
@[simp] theorem mOf_r (B : Fs) (k : Nat) (ds : List D) (τ : Tau) : mOf B k ds τ = (B FUEL (ds.map Sl.fz ++ List.replicate (k - ds.length) .un) τ).bd fun o t => outD o t := by
  unfold mOf runD
  simp
/-! ### values -/
@[simp] theorem SZ_eq : SZ = 1000000 := rfl
@[simp] theorem intD_int (i : Int) : intD (.int i) = some i := rfl
@[simp] theorem gLe_int (i j : Int) : gLe (.int i) (.int j) = some (.bl (decide (i ≤ j))) := rfl
@[simp] theorem gLt_int (i j : Int) : gLt (.int i) (.int j) = some (.bl (decide (i < j))) := rfl
@[simp] theorem gGt_int (i j : Int) : gGtI (.int i) (.int j) = some (.bl (decide (j < i))) := rfl
@[simp] theorem gGe_int (i j : Int) : gGe (.int i) (.int j) = some (.bl (decide (j ≤ i))) := rfl
@[simp] theorem gSub_int (i j : Int) : gSub (.int i) (.int j) = some (.int (i - j)) := rfl
@[simp] theorem gAdd_int (i j : Int) : gAdd (.int i) (.int j) = some (.int (i + j)) := rfl
@[simp] theorem gAdd_tup (a b : List D) (h : a.length + b.length ≤ SZ) : gAdd (.tup a) (.tup b) = some (.tup (a ++ b)) := by
  have : cT (.tup a) (.tup b) = some (.tup (a ++ b)) := by show (if _ then _ else _) = _; rw [if_pos]; simpa using h
  simp [gAdd, onI, this]
theorem gMul_int (i j : Int) (h : (-(2 ^ 64) < i ∧ i < 2 ^ 64) ∨ (-(2 ^ 64) < j ∧ j < 2 ^ 64)) : gMul (.int i) (.int j) = some (.int (i * j)) := by
  have : cMulB i j = true := by unfold cMulB; simpa using h
  simp [gMul, onIc, this]
theorem gDiv_int (i j : Int) (h0 : 0 < j) (h : j < 1073741824) : gDiv (.int i) (.int j) = some (.int (i / j)) := by simp [gDiv, onIc, h0, h]
theorem gMod_int (i j : Int) (h0 : 0 < j) : gMod (.int i) (.int j) = some (.int (i % j)) := by simp [gMod, onIc, h0]
theorem gPow_int (i j : Int) (h0 : 0 ≤ j) (h1 : j ≤ 1000000) (h : i.natAbs < 2 ^ 64) : gPow (.int i) (.int j) = some (.int (i ^ j.toNat)) := by
  have h' : i.natAbs < 18446744073709551616 := h
  simp [gPow, onIc, h0, h1, h']
@[simp] theorem gNeg_int (i : Int) : gNeg (.int i) = some (.int (-i)) := rfl
@[simp] theorem gAbs_int (i : Int) : gAbs [.int i] = some (.int (if i < 0 then -i else i)) := rfl
@[simp] theorem gMin_int (i j : Int) : gMin2 [.int i, .int j] = some (.int (if j < i then j else i)) := rfl
@[simp] theorem gMax_int (i j : Int) : gMax2 [.int i, .int j] = some (.int (if j > i then j else i)) := rfl
@[simp] theorem truD_bl (b : Bool) : truD (.bl b) = some b := rfl
@[simp] theorem gIs_non (d : D) : gIs d .non = some (.bl (isNon d)) := rfl
@[simp] theorem gIsNot_non (d : D) : gIsNot d .non = some (.bl (!isNon d)) := rfl
@[simp] theorem items0_tup (l : List D) : items0 (.tup l) = some l := rfl
@[simp] theorem items0_lst (l : List D) : items0 (.lst l) = some l := rfl
@[simp] theorem gTuple_lst (l : List D) : gTuple [.lst l] = some (.tup l) := rfl
@[simp] theorem gTuple_tup (l : List D) : gTuple [.tup l] = some (.tup l) := rfl
@[simp] theorem gList_tup (l : List D) : gList [.tup l] = some (.lst l) := rfl
@[simp] theorem gList_lst (l : List D) : gList [.lst l] = some (.lst l) := rfl
@[simp] theorem gLen_tup (l : List D) : gLen [.tup l] = some (.int l.length) := rfl
@[simp] theorem gLen_lst (l : List D) : gLen [.lst l] = some (.int l.length) := rfl
@[simp] theorem gLen_scr (l : List Int) : gLen [.scr l] = some (.int l.length) := by simp [gLen, on1, lenS, itemsD]
@[simp] theorem revD_tup (l : List D) : revD (.tup l) = some (.tup l.reverse) := rfl
@[simp] theorem revD_lst (l : List D) : revD (.lst l) = some (.lst l.reverse) := rfl
@[simp] theorem gAny_map {α : Type} (l : List α) (q : α → Bool) : gAny [.lst (l.map fun x => .bl (q x))] = some (.bl (l.any q)) := by
  have e : (l.map fun x => D.bl (q x)) = (l.map q).map D.bl := by simp [Function.comp_def]
  rw [e]
  show ((blsD _).map _) = _
  rw [blsD_map, Option.map_some, List.any_map]
  rfl
@[simp] theorem gAll_map {α : Type} (l : List α) (q : α → Bool) : gAll [.lst (l.map fun x => .bl (q x))] = some (.bl (l.all q)) := by
  have e : (l.map fun x => D.bl (q x)) = (l.map q).map D.bl := by simp [Function.comp_def]
  rw [e]
  show ((blsD _).map _) = _
  rw [blsD_map, Option.map_some, List.all_map]
  rfl
@[simp] theorem gAny_bls (bs : List Bool) : gAny [.lst (bs.map .bl)] = some (.bl (bs.any id)) := by simp [gAny, on1, lstD, blsD_map]
@[simp] theorem gAll_bls (bs : List Bool) : gAll [.lst (bs.map .bl)] = some (.bl (bs.all id)) := by simp [gAll, on1, lstD, blsD_map]
@[simp] theorem gSum_ints (ns : List Int) : gSum [.lst (ns.map .int)] = some (.int ns.sum) := by simp [gSum, on1, lstD, intsD_map]
@[simp] theorem bindD_name (i : Nat) (d : D) (ρ : En) : bindD (.name i) d ρ = some (ρ.set i (.fz d)) := by rw [bindD]
@[simp] theorem bindD_tup (ts : List Tg) (ds : List D) (ρ : En) : bindD (.tup ts) (.tup ds) ρ = bindL ts ds ρ := by rw [bindD]
@[simp] theorem bindL_nil (ρ : En) : bindL [] [] ρ = some ρ := by rw [bindL]
@[simp] theorem bindL_cons (t : Tg) (ts : List Tg) (d : D) (ds : List D) (ρ : En) : bindL (t :: ts) (d :: ds) ρ = (bindD t d ρ).bind (bindL ts ds) := by rw [bindL]
@[simp] theorem setsE_nil (ρ : En) : setsE ρ [] [] = some ρ := rfl
@[simp] theorem setsE_cons (ρ : En) (i : Nat) (is : List Nat) (d : D) (ds : List D) : setsE ρ (i :: is) (d :: ds) = setsE (ρ.set i (.fz d)) is ds := rfl
@[simp] theorem lstOf_ow (l : List D) : lstOf (.ow (.lst l)) = some l := rfl
/-! equality -/
theorem okd_int (n : Nat) (i : Int) : okd n (.int i) = true := by cases n <;> rfl
theorem okd_ints (n : Nat) (l : List Int) : okd (n + 1) (.tup (l.map .int)) = true := by
  rw [okd_tup, List.all_map]
  exact List.all_eq_true.mpr fun x _ => okd_int n x
theorem okd_intsL (n : Nat) (l : List Int) : okd (n + 1) (.lst (l.map .int)) = true := by
  rw [okd_lst, List.all_map]
  exact List.all_eq_true.mpr fun x _ => okd_int n x
@[simp] theorem deq_int (i j : Int) : deq (.int i) (.int j) = decide (i = j) := by
  unfold deq
  rw [toPy, toPy]
  by_cases h : i = j <;> simp [PySem.PyData.eqv, h]
@[simp] theorem deq_bl (i j : Bool) : deq (.bl i) (.bl j) = decide (i = j) := by
  unfold deq
  rw [toPy, toPy]
  cases i <;> cases j <;> rfl
@[simp] theorem gEq_int (i j : Int) : gEq (.int i) (.int j) = some (.bl (decide (i = j))) := by simp [gEq, okd_int]
@[simp] theorem gNe_int (i j : Int) : gNe (.int i) (.int j) = some (.bl (!decide (i = j))) := by simp [gNe, okd_int]
@[simp] theorem gEq_bl (i j : Bool) : gEq (.bl i) (.bl j) = some (.bl (decide (i = j))) := by simp [gEq, okd]
@[simp] theorem gNe_bl (i j : Bool) : gNe (.bl i) (.bl j) = some (.bl (!decide (i = j))) := by simp [gNe, okd]
theorem is_between_run (x lo hi : Int) (τ : Tau) : m_is_between [.int x, .int lo, .int hi] τ = .ok (.bl (decide (lo ≤ x) && decide (x ≤ hi))) τ := by
  simp [m_is_between, B_is_between, isiD, tyN, isiB]
  split <;> simp [*]
/-! ### loops -/
@[simp] theorem loopF_nil (t : Tg) (body : En → M Out) (ρ : En) (τ : Tau) : loopF t body [] ρ τ = .ok (.next ρ) τ := rfl
@[simp] theorem loopF_cons (t : Tg) (body : En → M Out) (d : D) (ds : List D) (ρ : En) (τ : Tau) : loopF t body (d :: ds) ρ τ = (M.opt (bindD t d ρ) τ).bd fun ρ1 u => (body ρ1 u).bd fun o u => loopK (loopF t body ds) o u := by simp [loopF]
@[simp] theorem loopK_next (k : En → M Out) (ρ : En) (τ : Tau) : loopK k (.next ρ) τ = k ρ τ := rfl
@[simp] theorem loopK_cont (k : En → M Out) (ρ : En) (τ : Tau) : loopK k (.cont ρ) τ = k ρ τ := rfl
@[simp] theorem loopK_brk (k : En → M Out) (ρ : En) (τ : Tau) : loopK k (.brk ρ) τ = .ok (.next ρ) τ := rfl
@[simp] theorem loopK_ret (k : En → M Out) (d : D) (τ : Tau) : loopK k (.ret d) τ = .ok (.ret d) τ := rfl
/-- a loop that runs to its end: an invariant by the place -/
theorem loop_inv {t : Tg} {body : En → M Out} (I : Nat → En → Tau → Prop) : ∀ (ds : List D) (k : Nat) (ρ : En) (τ : Tau), I k ρ τ →
    (∀ i d ρ τ, ds[i]? = some d → I (k + i) ρ τ → ∃ ρ1 ρ2 τ2, bindD t d ρ = some ρ1 ∧ body ρ1 τ = .ok (.next ρ2) τ2 ∧ I (k + i + 1) ρ2 τ2) → ∃ ρ' τ', loopF t body ds ρ τ = .ok (.next ρ') τ' ∧ I (k + ds.length) ρ' τ'
  | [], k, ρ, τ, h, _ => ⟨ρ, τ, rfl, h⟩
  | d :: ds, k, ρ, τ, h, st => by
    obtain ⟨ρ1, ρ2, τ2, e1, e2, h2⟩ := st 0 d ρ τ rfl h
    obtain ⟨ρ', τ', e3, h3⟩ := loop_inv I ds (k + 1) ρ2 τ2 h2 fun i d' ρ τ hd hi => by
      have := st (i + 1) d' ρ τ (by simpa using hd) (by rw [← Nat.add_assoc, Nat.add_right_comm]; exact hi)
      rw [← Nat.add_assoc, Nat.add_right_comm k i 1] at this
      exact this
    refine ⟨ρ', τ', ?_, by rw [List.length_cons, ← Nat.add_assoc, Nat.add_right_comm]; exact h3⟩
    simp [e1, e2, e3]
/-- the same without the place -/
theorem loop_inv0 {t : Tg} {body : En → M Out} (I : En → Tau → Prop) {ds : List D} {ρ : En} {τ : Tau} (h0 : I ρ τ) (st : ∀ d ∈ ds, ∀ ρ τ, I ρ τ → ∃ ρ1 ρ2 τ2, bindD t d ρ = some ρ1 ∧ body ρ1 τ = .ok (.next ρ2) τ2 ∧ I ρ2 τ2) : ∃ ρ' τ', loopF t body ds ρ τ = .ok (.next ρ') τ' ∧ I ρ' τ' := by
  obtain ⟨ρ', τ', e, h⟩ := loop_inv (fun _ => I) ds 0 ρ τ h0 fun i d ρ τ hd hi => st d (List.mem_of_getElem? hd) ρ τ hi
  exact ⟨ρ', τ', e, h⟩
/-- a look: it passes, or v is returned -/
def Pass (b : Bool) (v : D) (J : En → Prop) (τ : Tau) (r : Res Out) : Prop := (b = true ∧ ∃ ρ, r = .ok (.next ρ) τ ∧ J ρ) ∨ (b = false ∧ r = .ok (.ret v) τ)
theorem Pass.mono {b : Bool} {v : D} {J J' : En → Prop} {τ : Tau} {r : Res Out} (h : Pass b v J τ r) (k : ∀ ρ, J ρ → J' ρ) : Pass b v J' τ r := by
  rcases h with ⟨e, ρ, e1, j⟩ | h
  · exact .inl ⟨e, ρ, e1, k ρ j⟩
  · exact .inr h
theorem Pass.ite {b : Bool} {v : D} {J : En → Prop} {τ : Tau} {ρ : En} (j : J ρ) : Pass b v J τ (if b = true then .ok (.next ρ) τ else .ok (.ret v) τ) := by
  cases b
  · exact .inr ⟨rfl, rfl⟩
  · exact .inl ⟨rfl, ρ, rfl, j⟩
theorem Pass.ite' {b : Bool} {v : D} {J : En → Prop} {τ : Tau} {ρ : En} (j : J ρ) : Pass b v J τ (if b = false then .ok (.ret v) τ else .ok (.next ρ) τ) := by
  cases b
  · exact .inr ⟨rfl, rfl⟩
  · exact .inl ⟨rfl, ρ, rfl, j⟩
/-- a loop that looks whether all pass, and returns v at the first that does not -/
theorem loop_all {α : Type} {t : Tg} {body : En → M Out} (enc : α → D) (q : α → Bool) (v : D) (J : En → Prop) {τ : Tau} : ∀ (l : List α) {ρ : En}, J ρ →
    (∀ a ∈ l, ∀ ρ, J ρ → ∃ ρ1, bindD t (enc a) ρ = some ρ1 ∧ Pass (q a) v J τ (body ρ1 τ)) → Pass (l.all q) v J τ (loopF t body (l.map enc) ρ τ)
  | [], ρ, h, _ => .inl ⟨rfl, ρ, rfl, h⟩
  | a :: l, ρ, h, st => by
    obtain ⟨ρ1, e1, h1⟩ := st a (List.mem_cons_self ..) ρ h
    rcases h1 with ⟨qa, ρ2, e2, h2⟩ | ⟨qa, e2⟩
    · rcases loop_all enc q v J l h2 fun b hb => st b (List.mem_cons_of_mem _ hb) with ⟨ql, ρ', e3, h3⟩ | ⟨ql, e3⟩
      · exact .inl ⟨by simp [qa, ql], ρ', by simp [e1, e2, e3], h3⟩
      · exact .inr ⟨by simp [qa, ql], by simp [e1, e2, e3]⟩
    · exact .inr ⟨by simp [qa], by simp [e1, e2]⟩
/-- [g(a) for a in l if p(a)] -/
theorem lcF_map {α : Type} {t : Tg} {ft : Ft} {fe : Fe} {ρ : En} {τ : Tau} (enc : α → D) (p : α → Bool) (g : α → D) : ∀ l : List α, (∀ a ∈ l, ∃ ρ', bindD t (enc a) ρ = some ρ' ∧ ft ρ' τ = .ok (p a) τ ∧ (p a = true → fe ρ' τ = .ok (g a) τ)) →
    lcF t ft fe ρ (l.map enc) τ = .ok ((l.filter p).map g) τ
  | [], _ => rfl
  | a :: l, h => by
    obtain ⟨ρ', e1, e2, e3⟩ := h a (List.mem_cons_self ..)
    have ih := lcF_map enc p g l fun b hb => h b (List.mem_cons_of_mem _ hb)
    unfold lcF
    cases hp : p a with
    | true => simp [e1, e2, e3 hp, ih, hp]
    | false => simp [e1, e2, ih, hp]
theorem fLc_map {α : Type} {fi : En → M (List D)} {t : Tg} {ft : Ft} {fe : Fe} {vs : List Nat} {ρ : En} {τ : Tau} (enc : α → D) (l : List α) (p : α → Bool) (g : α → D) (h0 : fi ρ τ = .ok (l.map enc) τ) (hl : l.length ≤ SZ)
    (h : ∀ a ∈ l, ∃ ρ', bindD t (enc a) (wipeE ρ vs) = some ρ' ∧ ft ρ' τ = .ok (p a) τ ∧ (p a = true → fe ρ' τ = .ok (g a) τ)) : fLc fi t ft fe vs ρ τ = .ok (.lst ((l.filter p).map g)) τ := by
  unfold fLc
  simp [h0, hl, lcF_map enc p g l h]
theorem fLc_all {α : Type} {fi : En → M (List D)} {t : Tg} {fe : Fe} {vs : List Nat} {ρ : En} {τ : Tau} (enc : α → D) (l : List α) (g : α → D) (h0 : fi ρ τ = .ok (l.map enc) τ) (hl : l.length ≤ SZ)
    (h : ∀ a ∈ l, ∃ ρ', bindD t (enc a) (wipeE ρ vs) = some ρ' ∧ fe ρ' τ = .ok (g a) τ) : fLc fi t (fun _ => M.ret true) fe vs ρ τ = .ok (.lst (l.map g)) τ := by
  rw [fLc_map enc l (fun _ => true) g h0 hl fun a ha => by
    obtain ⟨ρ', e1, e2⟩ := h a ha
    exact ⟨ρ', e1, rfl, fun _ => e2⟩]
  congr 2
  rw [List.filter_eq_self.mpr fun _ _ => rfl]
theorem loop_all_bd {α β : Type} {t : Tg} {body : En → M Out} (enc : α → D) (q : α → Bool) (v : D) (J : En → Prop) (l : List α) {ρ : En} {τ : Tau} {k : Out → Tau → Res β} {R : Res β} (hJ : J ρ)
    (st : ∀ a ∈ l, ∀ ρ, J ρ → ∃ ρ1, bindD t (enc a) ρ = some ρ1 ∧ Pass (q a) v J τ (body ρ1 τ))
    (h1 : l.all q = true → ∀ ρ', J ρ' → k (.next ρ') τ = R) (h2 : l.all q = false → k (.ret v) τ = R) : (loopF t body (l.map enc) ρ τ).bd k = R := by
  rcases loop_all enc q v J l hJ st with ⟨e, ρ', e1, j⟩ | ⟨e, e1⟩
  · rw [e1]; exact h1 e ρ' j
  · rw [e1]; exact h2 e
/-! ### what a run gives -/
def Res.sat {α : Type} (r : Res α) (Q : α → Tau → Prop) : Prop := match r with
  | .ok a t => Q a t
  | _ => False
@[simp] theorem sat_ok {α : Type} (a : α) (t : Tau) (Q : α → Tau → Prop) : (Res.ok a t).sat Q ↔ Q a t := Iff.rfl
theorem sat_bd {α β : Type} {r : Res α} {k : α → Tau → Res β} {Q : β → Tau → Prop} (h : r.sat fun a t => (k a t).sat Q) : (r.bd k).sat Q := by
  cases r with
  | ok a t => exact h
  | exc c t => exact h.elim
  | stuck => exact h.elim
theorem sat_imp {α : Type} {r : Res α} {Q Q' : α → Tau → Prop} (h : r.sat Q) (k : ∀ a t, Q a t → Q' a t) : r.sat Q' := by
  cases r with
  | ok a t => exact k a t h
  | exc c t => exact h.elim
  | stuck => exact h.elim
theorem sat_ex {α : Type} {r : Res α} {Q : α → Tau → Prop} (h : r.sat Q) : ∃ a t, r = .ok a t ∧ Q a t := by
  cases r with
  | ok a t => exact ⟨a, t, rfl, h⟩
  | exc c t => exact h.elim
  | stuck => exact h.elim
/-- a loop with an invariant by the place -/
theorem loop_sat {α β : Type} {t : Tg} {body : En → M Out} (enc : α → D) (I : Nat → En → Tau → Prop) (l : List α) {ρ : En} {τ : Tau} {k : Out → Tau → Res β} {Q : β → Tau → Prop} (h0 : I 0 ρ τ)
    (st : ∀ i a ρ τ, l[i]? = some a → I i ρ τ → ∃ ρ1, bindD t (enc a) ρ = some ρ1 ∧ (body ρ1 τ).sat fun o τ' => ∃ ρ2, o = .next ρ2 ∧ I (i + 1) ρ2 τ')
    (h1 : ∀ ρ' τ', I l.length ρ' τ' → (k (.next ρ') τ').sat Q) : ((loopF t body (l.map enc) ρ τ).bd k).sat Q := by
  obtain ⟨ρ', τ', e, h⟩ := loop_inv I (l.map enc) 0 ρ τ h0 fun i d ρ τ hd hi => by
    rw [Nat.zero_add] at hi ⊢
    rw [List.getElem?_map] at hd
    obtain ⟨a, ha, rfl⟩ := Option.map_eq_some_iff.mp hd
    obtain ⟨ρ1, e1, s⟩ := st i a ρ τ ha hi
    obtain ⟨o, τ2, e2, ρ2, rfl, h2⟩ := sat_ex s
    exact ⟨ρ1, ρ2, τ2, e1, e2, h2⟩
  rw [e]
  rw [Nat.zero_add, List.length_map] at h
  exact h1 ρ' τ' h
theorem loop_sat0 {α β : Type} {t : Tg} {body : En → M Out} (enc : α → D) (I : En → Tau → Prop) (l : List α) {ρ : En} {τ : Tau} {k : Out → Tau → Res β} {Q : β → Tau → Prop} (h0 : I ρ τ)
    (st : ∀ a ∈ l, ∀ ρ τ, I ρ τ → ∃ ρ1, bindD t (enc a) ρ = some ρ1 ∧ (body ρ1 τ).sat fun o τ' => ∃ ρ2, o = .next ρ2 ∧ I ρ2 τ')
    (h1 : ∀ ρ' τ', I ρ' τ' → (k (.next ρ') τ').sat Q) : ((loopF t body (l.map enc) ρ τ).bd k).sat Q :=
  loop_sat enc (fun _ => I) l h0 (fun i a ρ τ ha hi => st a (List.mem_of_getElem? ha) ρ τ hi) h1
theorem bd_ret {α : Type} (r : Res α) : (r.bd fun a t => Res.ok a t) = r := by cases r <;> rfl
theorem loop_satE {α : Type} {t : Tg} {body : En → M Out} (enc : α → D) (I : Nat → En → Tau → Prop) (l : List α) {ρ : En} {τ : Tau} {Q : Out → Tau → Prop} (h0 : I 0 ρ τ)
    (st : ∀ i a ρ τ, l[i]? = some a → I i ρ τ → ∃ ρ1, bindD t (enc a) ρ = some ρ1 ∧ (body ρ1 τ).sat fun o τ' => ∃ ρ2, o = .next ρ2 ∧ I (i + 1) ρ2 τ')
    (h1 : ∀ ρ' τ', I l.length ρ' τ' → Q (.next ρ') τ') : (loopF t body (l.map enc) ρ τ).sat Q := by
  have := loop_sat (k := fun o t => Res.ok o t) (Q := Q) enc I l h0 st fun ρ' τ' h => h1 ρ' τ' h
  rwa [bd_ret] at this
theorem loop_satE0 {α : Type} {t : Tg} {body : En → M Out} (enc : α → D) (I : En → Tau → Prop) (l : List α) {ρ : En} {τ : Tau} {Q : Out → Tau → Prop} (h0 : I ρ τ)
    (st : ∀ a ∈ l, ∀ ρ τ, I ρ τ → ∃ ρ1, bindD t (enc a) ρ = some ρ1 ∧ (body ρ1 τ).sat fun o τ' => ∃ ρ2, o = .next ρ2 ∧ I ρ2 τ')
    (h1 : ∀ ρ' τ', I ρ' τ' → Q (.next ρ') τ') : (loopF t body (l.map enc) ρ τ).sat Q :=
  loop_satE enc (fun _ => I) l h0 (fun i a ρ τ ha hi => st a (List.mem_of_getElem? ha) ρ τ hi) h1
end KF
set_option maxHeartbeats 1000000
/-! KM2: hands, steps. -/
namespace KF
open L2
structure Hand where
  sp : List (Int × Int)
  hop : Int
def pD (p : Int × Int) : D := .tup [.int p.1, .int p.2]
def Hand.d (h : Hand) : D := .tup [.tup (h.sp.map pD), .int h.hop]
/-- a span at a place of PAIRS -/
def SpOk (i : Nat) (p : Int × Int) : Prop := (if i < 4 then -6 else 1) ≤ p.1 ∧ p.1 ≤ p.2 ∧ 1 ≤ p.2 ∧ p.2 ≤ 12
structure Hand.Ok (h : Hand) : Prop where
  len : h.sp.length = 10
  sps : ∀ i p, h.sp[i]? = some p → SpOk i p
  hop0 : 0 ≤ h.hop
  hop3 : h.hop ≤ 3
/-- a finger -/
def Fg (f : Int) : Prop := 1 ≤ f ∧ f ≤ 5
instance (f : Int) : Decidable (Fg f) := inferInstanceAs (Decidable (_ ∧ _))
theorem Fg.cases {f : Int} (h : Fg f) : f = 1 ∨ f = 2 ∨ f = 3 ∨ f = 4 ∨ f = 5 := by
  have := h.1; have := h.2; omega
def pix (a b : Int) : Nat := [((1 : Int), (2 : Int)), (1, 3), (1, 4), (1, 5), (2, 3), (2, 4), (2, 5), (3, 4), (3, 5), (4, 5)].idxOf (a, b)
theorem pix_lt {a b : Int} (ha : Fg a) (hb : Fg b) (h : a < b) : pix a b < 10 := by
  rcases ha.cases with rfl | rfl | rfl | rfl | rfl <;> rcases hb.cases with rfl | rfl | rfl | rfl | rfl <;> first | (exfalso; omega) | decide
theorem idx_pairs {a b : Int} (ha : Fg a) (hb : Fg b) (h : a < b) : idxD (.tup [.int a, .int b]) l_PAIRS = some (pix a b) := by
  rcases ha.cases with rfl | rfl | rfl | rfl | rfl <;> rcases hb.cases with rfl | rfl | rfl | rfl | rfl <;> first | (exfalso; omega) | decide +kernel
/-- the span of two fingers, the lower first -/
def Hand.span (h : Hand) (a b : Int) : Int × Int := h.sp.getD (pix a b) (0, 0)
def Hand.st (h : Hand) (f s o : Int) : Bool :=
  if f = o then decide ((s.natAbs : Int) ≤ h.hop) else if f < o then decide ((h.span f o).1 ≤ s) && decide (s ≤ (h.span f o).2) else decide ((h.span o f).1 ≤ -s) && decide (-s ≤ (h.span o f).2)
@[simp] theorem atI_nat {α : Type} (l : List α) (n : Nat) : atI l (n : Int) = l[n]? := by
  unfold atI ixN
  by_cases h : n < l.length
  · simp [h]
  · simp [h]
theorem atI_last {α : Type} (l : List α) (x : α) : atI (l ++ [x]) (-1) = some x := by
  unfold atI ixN
  have e : ¬ (0 : Int) ≤ -1 := by omega
  have e2 : -((l ++ [x]).length : Int) ≤ -1 := by simp; omega
  rw [if_neg e, if_pos e2]
  have : (-1 + ((l ++ [x]).length : Int)).toNat = l.length := by simp; omega
  show (l ++ [x])[_]? = some x
  rw [this]
  simp
@[simp] theorem gIxA_tup (l : List D) (n : Nat) : gIxA (.tup l) (.int (n : Int)) = l[n]? := by
  show ((atI l (n : Int)).or none) = _
  simp
@[simp] theorem gIxA_lst (l : List D) (n : Nat) : gIxA (.lst l) (.int (n : Int)) = l[n]? := by
  show ((atI l (n : Int)).or none) = _
  simp
theorem gIxA_0 (a : D) (l : List D) : gIxA (.tup (a :: l)) (.int 0) = some a := gIxA_tup (a :: l) 0
theorem gIxA_1 (a b : D) (l : List D) : gIxA (.tup (a :: b :: l)) (.int 1) = some b := gIxA_tup (a :: b :: l) 1
theorem gIxA_L0 (a : D) (l : List D) : gIxA (.lst (a :: l)) (.int 0) = some a := gIxA_lst (a :: l) 0
theorem okd_pairs : okd 32 c_PAIRS = true := by decide +kernel
theorem okd_pair (a b : Int) : okd 32 (.tup [.int a, .int b]) = true := okd_ints 31 [a, b]
theorem does_step_run {h : Hand} (hh : h.Ok) {f s o : Int} (hf : Fg f) (ho : Fg o) (τ : Tau) : m_does_step [h.d, .int f, .int s, .int o] τ = .ok (.bl (h.st f s o)) τ := by
  have okp : okd 32 (.tup l_PAIRS) = true := okd_pairs
  by_cases e : f = o
  · subst e
    simp [m_does_step, B_does_step, Hand.d, gIxA_1, Hand.st]
    split <;> omega
  · have key : ∀ a b : Int, Fg a → Fg b → a < b → ∃ p, h.sp[pix a b]? = some p ∧ h.span a b = p := fun a b ha hb hab => by
      have hl := pix_lt ha hb hab
      refine ⟨h.sp[pix a b]'(by rw [hh.len]; exact hl), List.getElem?_eq_getElem _, ?_⟩
      unfold Hand.span
      rw [List.getD_eq_getElem?_getD, List.getElem?_eq_getElem (by rw [hh.len]; exact hl)]
      rfl
    by_cases hlt : f < o
    · obtain ⟨p, e1, e2⟩ := key f o hf ho hlt
      have n1 : ¬ o < f := by omega
      simp [m_does_step, B_does_step, Hand.d, gIxA_0, Hand.st, e, hlt, n1, okd_pair, okp, idx_pairs hf ho hlt, e1, e2, pD]
      split <;> simp [*]
    · have hgt : o < f := by omega
      obtain ⟨p, e1, e2⟩ := key o f ho hf hgt
      have n2 : ¬ o > f := by omega
      simp [m_does_step, B_does_step, Hand.d, gIxA_0, Hand.st, e, hlt, hgt, n2, okd_pair, okp, idx_pairs ho hf hgt, e1, e2, pD]
      split <;> simp [*]
/-! ### after a step -/
abbrev iT (l : List Int) : D := .tup (l.map .int)
abbrev iL (l : List Int) : D := .lst (l.map .int)
def FING : List Int := [1, 2, 3, 4, 5]
theorem fing_fg {f : Int} : f ∈ FING ↔ Fg f := by
  unfold FING Fg
  simp
  omega
def Hand.af (h : Hand) (fs : List Int) (s : Int) : List Int := FING.filter fun o => fs.any fun f => h.st f s o
theorem Hand.af_fg {h : Hand} {fs : List Int} {s o : Int} (m : o ∈ h.af fs s) : Fg o := fing_fg.mp (List.mem_filter.mp m).1
theorem Hand.mem_af {h : Hand} {fs : List Int} {s o : Int} : o ∈ h.af fs s ↔ Fg o ∧ ∃ f ∈ fs, h.st f s o = true := by
  unfold Hand.af
  rw [List.mem_filter, fing_fg, List.any_eq_true]
theorem Hand.af_len (h : Hand) (fs : List Int) (s : Int) : (h.af fs s).length ≤ 5 := by
  unfold Hand.af
  exact List.length_filter_le _ FING
theorem after_step_run {h : Hand} (hh : h.Ok) {fs : List Int} (hf : ∀ f ∈ fs, Fg f) (hl : fs.length ≤ 1000000) {d : D} (hd : items0 d = some (fs.map .int)) (s : Int) (τ : Tau) : m_after_step [h.d, d, .int s] τ = .ok (iT (h.af fs s)) τ := by
  simp only [m_after_step, mOf_r, B_after_step, fRet_r, fN_r, fCons_r]
  rw [fLc_map D.int FING (fun o => fs.any fun f => h.st f s o) D.int (by simp [c_FINGERS, l_FINGERS, FING]) (by decide) ?_]
  · simp [Hand.af]
  · intro o ho
    refine ⟨_, bindD_name _ _ _, ?_, fun _ => by simp [wipeE]⟩
    simp only [fTru_r, fN_r, fCons_r]
    rw [fLc_all D.int fs (fun f => .bl (h.st f s o)) (by simp [hd, wipeE]) hl ?_]
    · simp
    · intro f hm
      exact ⟨_, bindD_name _ _ _, by simp [wipeE, does_step_run hh (hf f hm) (fing_fg.mp ho)]⟩
theorem after_run {h : Hand} (hh : h.Ok) {fs : List Int} (hf : ∀ f ∈ fs, Fg f) (hl : fs.length ≤ 1000000) (s : Int) (τ : Tau) : m_after_step [h.d, iT fs, .int s] τ = .ok (iT (h.af fs s)) τ := after_step_run hh hf hl rfl s τ
/-! ### what a hand is -/
def stepsD : List Int := (List.range 25).map fun (i : Nat) => (i : Int) - 12
theorem mem_stepsD {s : Int} : s ∈ stepsD ↔ -12 ≤ s ∧ s ≤ 12 := by
  unfold stepsD
  simp only [List.mem_map, List.mem_range]
  constructor
  · rintro ⟨i, hi, rfl⟩; omega
  · intro h; exact ⟨(s + 12).toNat, by omega, by omega⟩
theorem rng_steps : rng2 [.int (-12), .int 13] = some (stepsD.map .int) := by rfl
theorem is_between_run' (d : D) (i : Int) (hd : d = .int i) (lo hi : Int) (τ : Tau) : m_is_between [d, .int lo, .int hi] τ = .ok (.bl (decide (lo ≤ i) && decide (i ≤ hi))) τ := by rw [hd]; exact is_between_run i lo hi τ
theorem is_span_run (a b : Int) (p : Int × Int) (τ : Tau) : m_is_span [.tup [.int a, .int b], pD p] τ = .ok (.bl (decide (1 ≤ p.2) && decide (p.2 ≤ 12) && (decide ((if a = 1 then -6 else 1) ≤ p.1) && decide (p.1 ≤ p.2)))) τ := by
  simp [m_is_span, B_is_span, pD, isiD, tyN, isiB, is_between_run, gIxA_0, gIxA_1]
  by_cases h1 : 1 ≤ p.2 <;> by_cases h2 : p.2 ≤ 12 <;> by_cases h3 : a = 1 <;> (simp [h1, h2, h3, is_between_run] <;> omega)
end KF
set_option maxHeartbeats 1000000
/-! KM3: the checks, steps of a hand, wider hands. -/
namespace KF
open L2
def PR : List (Int × Int) := [(1, 2), (1, 3), (1, 4), (1, 5), (2, 3), (2, 4), (2, 5), (3, 4), (3, 5), (4, 5)]
theorem pr_map : l_PAIRS = PR.map pD := rfl
theorem pr_one : ∀ i, i < 10 → ((PR.getD i (0, 0)).1 = 1 ↔ i < 4) := by decide
def spB (x : (Int × Int) × (Int × Int)) : Bool := decide (1 ≤ x.2.2) && decide (x.2.2 ≤ 12) && (decide ((if x.1.1 = 1 then -6 else 1) ≤ x.2.1) && decide (x.2.1 ≤ x.2.2))
theorem zip_all {h : Hand} (hh : h.Ok) : (PR.zip h.sp).all spB = true := by
  rw [List.all_eq_true]
  intro x hx
  obtain ⟨i, hi, e⟩ := List.mem_iff_getElem.mp hx
  rw [List.getElem_zip] at e
  have hl : i < 10 := by
    have : (PR.zip h.sp).length = 10 := by rw [List.length_zip, hh.len]; rfl
    omega
  have h1 : h.sp[i]? = some x.2 := by rw [List.getElem?_eq_getElem (by rw [hh.len]; exact hl), ← e]
  obtain ⟨o1, o2, o3, o4⟩ := hh.sps i x.2 h1
  have h2 : PR.getD i (0, 0) = x.1 := by
    rw [List.getD_eq_getElem?_getD, List.getElem?_eq_getElem (show i < PR.length from hl), ← e]; rfl
  have h3 := pr_one i hl
  rw [h2] at h3
  unfold spB
  simp only [Bool.and_eq_true, decide_eq_true_eq]
  refine ⟨⟨o3, o4⟩, ?_, o2⟩
  by_cases c : i < 4
  · rw [if_pos (h3.mpr c)]; rw [if_pos c] at o1; exact o1
  · rw [if_neg (fun z => c (h3.mp z))]; rw [if_neg c] at o1; exact o1
theorem is_hand_run {h : Hand} (hh : h.Ok) (τ : Tau) : m_is_hand [h.d] τ = .ok (.bl true) τ := by
  have e1 := hh.hop0
  have e2 := hh.hop3
  have e3 : ((h.sp.map pD).length : Int) = 10 := by rw [List.length_map, hh.len]; rfl
  have key : ∀ ρ, ρ = [Sl.fz h.d, .un, .un] → fLc (fRng zip2 (fCons (fC c_PAIRS) (fCons (f2 gIxA (fBor 0) (fC (.int 0))) fNil))) (.tup [(.name 1), (.name 2)]) (fun _ => M.ret true) (fCallM m_is_span 2 (fCons (fVar 1) (fCons (fVar 2) fNil))) [1, 2] ρ τ = .ok (.lst ((PR.zip h.sp).map fun x => .bl (spB x))) τ := by
    intro ρ hρ
    subst hρ
    refine fLc_all (fun x => .tup [pD x.1, pD x.2]) (PR.zip h.sp) _ ?_ ?_ fun x _ => ?_
    · simp [Hand.d, gIxA_0, zip2, c_PAIRS, pr_map, List.zip_map, Function.comp_def]
    · rw [List.length_zip, hh.len]; decide
    · refine ⟨[.fz h.d, .fz (pD x.1), .fz (pD x.2)], by simp [wipeE], ?_⟩
      simp
      rw [show pD x.1 = .tup [.int x.1.1, .int x.1.2] from rfl, is_span_run]
      rfl
  simp [m_is_hand, B_is_hand]
  simp [Hand.d, gIxA_0, gIxA_1, is_between_run, e1, e2, isiD, tyN, isiB, hh.len]
  rw [show D.tup [D.tup (List.map pD h.sp), D.int h.hop] = h.d from rfl, key _ rfl]
  simp [zip_all hh]
theorem check_hand_run {h : Hand} (hh : h.Ok) (τ : Tau) : m_check_hand [h.d] τ = .ok .non τ := by
  simp [m_check_hand, B_check_hand, is_hand_run hh]
theorem check_finger_run {f : Int} (hf : Fg f) (τ : Tau) : m_check_finger [.int f] τ = .ok .non τ := by
  have h1 := hf.1
  have h2 := hf.2
  simp [m_check_finger, B_check_finger, is_between_run, h1, h2]
theorem check_step_run {s : Int} (h1 : -99 ≤ s) (h2 : s ≤ 99) (τ : Tau) : m_check_step [.int s] τ = .ok .non τ := by
  simp [m_check_step, B_check_step, is_between_run, h1, h2]
theorem can_step_run {h : Hand} (hh : h.Ok) {f s o : Int} (hf : Fg f) (ho : Fg o) (h1 : -99 ≤ s) (h2 : s ≤ 99) (τ : Tau) : m_can_step [h.d, .int f, .int s, .int o] τ = .ok (.bl (h.st f s o)) τ := by
  simp [m_can_step, B_can_step, check_hand_run hh, check_finger_run hf, check_finger_run ho, check_step_run h1 h2, does_step_run hh hf ho]
theorem next_fingers_run {h : Hand} (hh : h.Ok) {f s : Int} (hf : Fg f) (h1 : -99 ≤ s) (h2 : s ≤ 99) (τ : Tau) : m_next_fingers [h.d, .int f, .int s] τ = .ok (iT (h.af [f] s)) τ := by
  have e : m_after_step [h.d, .tup [.int f], .int s] τ = .ok (iT (h.af [f] s)) τ := after_run hh (fs := [f]) (fun g hg => by rw [List.mem_singleton.mp hg]; exact hf) (by simp) s τ
  simp [m_next_fingers, B_next_fingers, check_hand_run hh, check_finger_run hf, check_step_run h1 h2, e]
/-! the steps that a hand plays -/
def Hand.steps (h : Hand) : List Int := stepsD.filter fun s => !decide (h.af FING s = [])
theorem fing_all : ∀ f ∈ FING, Fg f := fun _ h => fing_fg.mp h
theorem c_fing : c_FINGERS = iT FING := rfl
theorem deq_ints : ∀ a b : List Int, PySem.PyData.eqvAll (toPys (a.map .int)) (toPys (b.map .int)) = decide (a = b)
  | [], [] => by rw [List.map_nil, toPys]; rfl
  | [], b :: l => by rw [List.map_nil, toPys, List.map_cons, toPys]; rfl
  | a :: l, [] => by rw [List.map_nil, toPys, List.map_cons, toPys]; rfl
  | a :: l, b :: r => by
    rw [List.map_cons, List.map_cons, toPys, toPys, toPy, toPy, PySem.PyData.eqvAll, deq_ints l r]
    have : PySem.PyData.eqv (.int a) (.int b) = decide (a = b) := by have := deq_int a b; unfold deq at this; rw [toPy, toPy] at this; exact this
    rw [this]
    by_cases h1 : a = b <;> by_cases h2 : l = r <;> simp [h1, h2]
theorem deq_iT (a b : List Int) : deq (iT a) (iT b) = decide (a = b) := by
  unfold deq
  rw [toPy, toPy, PySem.PyData.eqv, deq_ints]
theorem deq_iL (a b : List Int) : deq (iL a) (iL b) = decide (a = b) := by
  unfold deq
  rw [toPy, toPy, PySem.PyData.eqv, deq_ints]
@[simp] theorem gNe_iT (a b : List Int) : gNe (iT a) (iT b) = some (.bl (!decide (a = b))) := by
  unfold gNe
  rw [if_pos ⟨okd_ints 31 a, okd_ints 31 b⟩, deq_iT]
@[simp] theorem gEq_iT (a b : List Int) : gEq (iT a) (iT b) = some (.bl (decide (a = b))) := by
  unfold gEq
  rw [if_pos ⟨okd_ints 31 a, okd_ints 31 b⟩, deq_iT]
@[simp] theorem gNe_iL (a b : List Int) : gNe (iL a) (iL b) = some (.bl (!decide (a = b))) := by
  unfold gNe
  rw [if_pos ⟨okd_intsL 31 a, okd_intsL 31 b⟩, deq_iL]
@[simp] theorem gEq_iL (a b : List Int) : gEq (iL a) (iL b) = some (.bl (decide (a = b))) := by
  unfold gEq
  rw [if_pos ⟨okd_intsL 31 a, okd_intsL 31 b⟩, deq_iL]
@[simp] theorem gNe_iT0 (a : List Int) : gNe (iT a) (.tup []) = some (.bl (!decide (a = []))) := gNe_iT a []
@[simp] theorem gEq_iT0 (a : List Int) : gEq (iT a) (.tup []) = some (.bl (decide (a = []))) := gEq_iT a []
@[simp] theorem gNe_iL0 (a : List Int) : gNe (iL a) (.lst []) = some (.bl (!decide (a = []))) := gNe_iL a []
@[simp] theorem gEq_iL0 (a : List Int) : gEq (iL a) (.lst []) = some (.bl (decide (a = []))) := gEq_iL a []
theorem played_steps_run {h : Hand} (hh : h.Ok) (τ : Tau) : m_played_steps [h.d] τ = .ok (iL h.steps) τ := by
  simp only [m_played_steps, mOf_r, B_played_steps, fRet_r]
  rw [fLc_map D.int stepsD (fun s => !decide (h.af FING s = [])) D.int (by simp [rng_steps]) (by decide) ?_]
  · simp [Hand.steps]
  · intro s hs
    refine ⟨_, bindD_name _ _ _, ?_, fun _ => by simp [wipeE]⟩
    simp [wipeE, c_fing, after_run hh fing_all (by decide)]
theorem steps_of_run {h : Hand} (hh : h.Ok) (τ : Tau) : m_steps_of [h.d] τ = .ok (iT h.steps) τ := by
  simp [m_steps_of, B_steps_of, check_hand_run hh, played_steps_run hh]
/-! wider -/
def wider (a b : Hand) : Bool := FING.all fun f => FING.all fun o => (stepsD.filter fun s => b.st f s o).all fun s => a.st f s o
theorem check_two_run {a b : Hand} (ha : a.Ok) (hb : b.Ok) (τ : Tau) : m_check_two [a.d, b.d] τ = .ok .non τ := by
  simp [m_check_two, B_check_two, check_hand_run ha, check_hand_run hb]
theorem is_wider_run {a b : Hand} (ha : a.Ok) (hb : b.Ok) (τ : Tau) : m_is_wider [a.d, b.d] τ = .ok (.bl (wider a b)) τ := by
  simp [m_is_wider, B_is_wider, check_two_run ha hb, c_fing]
  refine loop_all_bd D.int (fun f => FING.all fun o => (stepsD.filter fun s => b.st f s o).all fun s => a.st f s o) (.bl false) (fun ρ => ∃ x y z u, ρ = [.fz a.d, .fz b.d, x, y, z, u]) FING ⟨_, _, _, _, rfl⟩ ?_ ?_ ?_
  · rintro f hf _ ⟨x, y, z, u, rfl⟩
    have fo := fing_fg.mp hf
    refine ⟨_, bindD_name _ _ _, ?_⟩
    simp only [fFor_r, fItA_r, fC_r, bd_ok, items0_tup, opt_some_r, List.set_cons_succ, List.set_cons_zero]
    refine (loop_all D.int (fun o => (stepsD.filter fun s => b.st f s o).all fun s => a.st f s o) (.bl false) (fun ρ => ∃ y z u, ρ = [.fz a.d, .fz b.d, .fz (.int f), y, z, u]) FING ⟨y, z, u, rfl⟩ ?_).mono fun ρ ⟨y, z, u, e⟩ => ⟨_, y, z, u, e⟩
    rintro o ho _ ⟨y, z, u, rfl⟩
    have oo := fing_fg.mp ho
    refine ⟨_, bindD_name _ _ _, ?_⟩
    simp only [fSeq_r, fAsg_r]
    rw [fLc_map D.int stepsD (fun s => b.st f s o) D.int (by simp [rng_steps]) (by decide) fun s hs => ⟨_, bindD_name _ _ _, by simp [wipeE, does_step_run hb fo oo], fun _ => by simp [wipeE]⟩]
    simp only [List.set_cons_succ, List.set_cons_zero, bindD_name, bd_ok, opt_some_r, seqK_next, fIf_r, fNot_r, fTru_r, fN_r, fCons_r]
    rw [fLc_all D.int (stepsD.filter fun s => b.st f s o) (fun s => .bl (a.st f s o)) (by simp) (Nat.le_trans (List.length_filter_le _ _) (by decide)) fun s hs => ⟨_, bindD_name _ _ _, by simp [wipeE, does_step_run ha fo oo]⟩]
    cases hq : (stepsD.filter fun s => b.st f s o).all fun s => a.st f s o with
    | true => exact .inl ⟨rfl, _, by simp only [fNil_r, bd_ok, gAll_map, opt_some_r, truD_bl, hq]; rfl, _, _, _, rfl⟩
    | false => exact .inr ⟨rfl, by simp only [fNil_r, bd_ok, gAll_map, opt_some_r, truD_bl, hq]; rfl⟩
  · rintro h _ ⟨x, y, z, u, rfl⟩
    rw [← h]; rfl
  · rintro h
    rw [← h]; rfl
end KF
set_option maxHeartbeats 1000000
/-! KM4: draws. -/
namespace KF
open L2
/-- the town as the draws leave it -/
def Town (ns : List Int) (n : Nat) (τ : Tau) : Prop := ∃ c r, τ[n]? = some (.town c r) ∧ (r.map (·.1)).Nodup ∧ ∀ p ∈ r, 0 ≤ p.1 ∧ p.1 < max 1 (ns.length : Int)
theorem mem_putR {r : List (Int × Int)} {k v : Int} {p : Int × Int} (h : p ∈ putR r k v) : p.1 = k ∨ p ∈ r := by
  unfold putR at h
  split at h
  · obtain ⟨q, hq, e⟩ := List.mem_map.mp h
    split at e
    · rename_i e2; left; rw [← e]; exact e2
    · right; rw [← e]; exact hq
  · rcases List.mem_append.mp h with h | h
    · exact .inr h
    · left; rw [List.mem_singleton.mp h]
theorem keys_putR (r : List (Int × Int)) (k v : Int) (h : (r.map (·.1)).Nodup) : ((putR r k v).map (·.1)).Nodup := by
  unfold putR
  split
  · rw [List.map_map]
    have : ((fun p : Int × Int => p.1) ∘ fun p : Int × Int => if p.1 = k then (p.1, v) else p) = fun p => p.1 := by
      funext p
      simp only [Function.comp]
      split <;> rfl
    rw [this]
    exact h
  · rename_i e
    rw [List.map_append, List.nodup_append]
    refine ⟨h, by simp, ?_⟩
    intro a ha b hb
    simp only [List.map_cons, List.map_nil, List.mem_singleton] at hb
    subst hb
    rintro rfl
    obtain ⟨p, hp, e2⟩ := List.mem_map.mp ha
    exact e (List.any_eq_true.mpr ⟨p, hp, by simpa using e2⟩)
theorem nodup_len : ∀ (m : Nat) {l : List Int}, l.Nodup → (∀ x ∈ l, 0 ≤ x ∧ x < m) → l.length ≤ m
  | 0, [], _, _ => Nat.le_refl _
  | 0, x :: l, _, b => by have := b x (List.mem_cons_self ..); omega
  | m + 1, l, h, b => by
    have ih := nodup_len m (l := l.erase (m : Int)) (h.erase _) fun x hx => by
      obtain ⟨h1, h2⟩ := h.mem_erase_iff.mp hx
      have := b x h2
      omega
    rw [List.length_erase] at ih
    split at ih <;> omega
/-- the state's one part that a town's change leaves -/
theorem set_get {τ : Tau} {n : Nat} {o o' : Ob} (h : τ[n]? = some o) : (τ.set n o')[n]? = some o' := by
  rw [List.getElem?_set_self]
  rcases Nat.lt_or_ge n τ.length with z | z
  · exact z
  · rw [List.getElem?_eq_none z] at h; cases h
@[simp] theorem truD_scr (l : List Int) : truD (.scr l) = some (!l.isEmpty) := rfl
theorem gIxA_scr (l : List Int) (n : Nat) (h : n < l.length) : gIxA (.scr l) (.int (n : Int)) = some (.int l[n]) := by
  show ((atI (l.map D.int) (n : Int)).or none) = _
  rw [atI_nat]
  simp [h]
theorem begun_run (τ : Tau) : m__law_begun [] τ = .ok (.obj τ.length) (τ ++ [.town 0 []]) := by simp [m__law_begun, B__law_begun]
theorem town_begun (ns : List Int) (τ : Tau) : Town ns τ.length (τ ++ [.town 0 []]) := ⟨0, [], by simp, by simp, by simp⟩
theorem townOf_run {n : Nat} {τ : Tau} {c : Int} {r : List (Int × Int)} (h : τ[n]? = some (.town c r)) : townOf (.obj n) τ = .ok (n, c, r) τ := by
  show (match τ[n]? with | some (.town c r) => Res.ok (n, c, r) τ | none => .stuck) = _
  rw [h]
@[simp] theorem putTown_r (n : Nat) (c : Int) (r : List (Int × Int)) (τ : Tau) : putTown n c r τ = .ok () (τ.set n (.town c r)) := rfl
/-- what stands behind the number that a draw takes -/
def drawTail : En → M Out := fSeq (fIf (fB (f2 gGe (fBor 4) (f2 gPow (fC (.int 10)) (fC (.int 18)))))
    (fSeq (fPutR 1 (fVar 3) (f2 gDiv (fBor 4) (fBor 2)))
    (fRet (f2 gMod (fBor 4) (fBor 2))))
    fNext)
    (fSeq (fAsg (.name 5) (f2 gMod (f2 gAdd (fBor 4) (f2 gMul (fC (.int 104729)) (fCount 1))) (fC (.int 4294967291))))
    (fSeq (fAsg (.name 5) (f2 gMod (f2 gPow (fBor 5) (fC (.int 5))) (fC (.int 4294967279))))
    (fRet (f2 gMod (f2 gDiv (f2 gMod (f2 gAdd (f2 gMul (f2 gDiv (fBor 5) (fC (.int 64))) (fC (.int 69621))) (fBor 5)) (fC (.int 4294967231))) (fC (.int 8))) (fBor 2)))))
theorem draw_tail {ns : List Int} (hn : ns.length ≤ 63) {n : Nat} {τ : Tau} (T : Town ns n τ) {many at_ rest : Int} (h0 : 0 < many) (h1 : many < 1073741824) (a0 : 0 ≤ at_) (a1 : at_ < max 1 (ns.length : Int)) :
    (drawTail [.fz (.scr ns), .fz (.obj n), .fz (.int many), .fz (.int at_), .fz (.int rest), .un] τ).sat fun o τ' => (∃ r, o = .ret (.int r) ∧ 0 ≤ r ∧ r < many) ∧ Town ns n τ' := by
  obtain ⟨c, r, e, hk, hb⟩ := T
  have e1 := townOf_run e
  have hlen : r.length < 1000000 := by
    have := nodup_len (max 1 ns.length) hk fun x hx => by
      obtain ⟨p, hp, rfl⟩ := List.mem_map.mp hx
      have := hb p hp
      omega
    rw [List.length_map] at this
    omega
  have T' : ∀ v, Town ns n (τ.set n (.town c (putR r at_ v))) := fun v => ⟨c, putR r at_ v, set_get e, keys_putR r at_ v hk, fun p hp => by
    rcases mem_putR hp with z | z
    · rw [z]; exact ⟨a0, a1⟩
    · exact hb p z⟩
  have hp : gPow (.int 10) (.int 18) = some (.int 1000000000000000000) := by rw [gPow_int 10 18 (by decide) (by decide) (by decide)]; rfl
  simp [drawTail, hp, e1, gMul_int 104729 c (.inl ⟨by decide, by decide⟩), gMod_int _ 4294967291 (by decide)]
  by_cases hr : 1000000000000000000 ≤ rest
  · simp [hr, gDiv_int rest many h0 h1, e1, hlen, gMod_int rest many h0]
    exact ⟨⟨Int.emod_nonneg _ (Int.ne_of_gt h0), Int.emod_lt_of_pos _ h0⟩, T' _⟩
  · simp [hr]
    have hx := Int.emod_nonneg (rest + 104729 * c) (show (4294967291 : Int) ≠ 0 by decide)
    have hy := Int.emod_lt_of_pos (rest + 104729 * c) (show (0 : Int) < 4294967291 by decide)
    generalize (rest + 104729 * c) % 4294967291 = x at hx hy
    rw [gPow_int x 5 (by decide) (by decide) (by omega)]
    simp [gMod_int _ 4294967279 (by decide)]
    have hx2 := Int.emod_nonneg (x ^ 5) (show (4294967279 : Int) ≠ 0 by decide)
    have hy2 := Int.emod_lt_of_pos (x ^ 5) (show (0 : Int) < 4294967279 by decide)
    generalize x ^ 5 % 4294967279 = y at hx2 hy2
    simp [gDiv_int _ 64 (by decide) (by decide), gMul_int (y / 64) 69621 (.inr ⟨by decide, by decide⟩), gMod_int _ 4294967231 (by decide), gDiv_int _ 8 (by decide) (by decide), gMod_int _ many h0]
    exact ⟨⟨Int.emod_nonneg _ (Int.ne_of_gt h0), Int.emod_lt_of_pos _ h0⟩, c, r, e, hk, hb⟩
theorem draw_run {ns : List Int} (hn : ns.length ≤ 63) {n : Nat} {τ : Tau} (T : Town ns n τ) {many : Int} (h0 : 0 < many) (h1 : many < 1073741824) :
    (m__law_draw [.scr ns, .obj n, .int many] τ).sat fun d τ' => (∃ r, d = .int r ∧ 0 ≤ r ∧ r < many) ∧ Town ns n τ' := by
  obtain ⟨c, r, e, hk, hb⟩ := T
  have e1 := townOf_run e
  have e2 := set_get (o' := .town (c + 1) r) e
  have e3 := townOf_run e2
  have T1 : Town ns n (τ.set n (.town (c + 1) r)) := ⟨c + 1, r, e2, hk, hb⟩
  have fin : ∀ at_ rest : Int, 0 ≤ at_ → at_ < max 1 (ns.length : Int) → ((drawTail [.fz (.scr ns), .fz (.obj n), .fz (.int many), .fz (.int at_), .fz (.int rest), .un] (τ.set n (.town (c + 1) r))).bd fun o t => outD o t).sat fun d τ' => (∃ r, d = .int r ∧ 0 ≤ r ∧ r < many) ∧ Town ns n τ' := fun at_ rest a0 a1 =>
    sat_bd (sat_imp (draw_tail hn T1 h0 h1 a0 a1) fun o t ⟨⟨r, e, b⟩, T⟩ => by subst e; exact ⟨⟨r, rfl, b⟩, T⟩)
  have hB : B__law_draw = fun _ => fSeq (fPutC 1 (f2 gAdd (fCount 1) (fC (.int 1)))) (fSeq (fAsg (.name 3) (fIfE (fTru (fBor 0)) (f2 gMod (fCount 1) (fN gLen (fCons (fBor 0) fNil))) (fC (.int 0))))
    (fSeq (fAsg (.name 4) (fRest 1 (fVar 3) (fIfE (fTru (fBor 0)) (f2 gIxA (fBor 0) (fBor 3)) (fC (.int 0))))) drawTail)) := rfl
  cases hns : ns with
  | nil =>
    subst hns
    simp [m__law_draw, hB, e1, e3]
    exact fin _ _ (by decide) (by decide)
  | cons x l =>
    rw [← hns]
    have hp : (0 : Int) < (ns.length : Int) := by rw [hns]; simp
    have hne : ns ≠ [] := by rw [hns]; simp
    have u0 := Int.emod_nonneg (c + 1) (Int.ne_of_gt hp)
    have u1 := Int.emod_lt_of_pos (c + 1) hp
    simp [m__law_draw, hB, e1, e3, hne, gMod_int _ _ hp]
    have hx : gIxA (.scr ns) (.int ((c + 1) % (ns.length : Int))) = some (.int (ns[((c + 1) % (ns.length : Int)).toNat]'(by omega))) := by
      have := gIxA_scr ns ((c + 1) % (ns.length : Int)).toNat (by omega)
      rwa [Int.toNat_of_nonneg u0] at this
    rw [hx]
    simp [e3]
    exact fin _ _ u0 (by omega)
theorem draw_bd {β : Type} {ns : List Int} (hn : ns.length ≤ 63) {n : Nat} {τ : Tau} (T : Town ns n τ) {many : Int} (h0 : 0 < many) (h1 : many < 1073741824) {k : D → Tau → Res β} {Q : β → Tau → Prop}
    (h : ∀ r τ', 0 ≤ r → r < many → Town ns n τ' → (k (.int r) τ').sat Q) : ((m__law_draw [.scr ns, .obj n, .int many] τ).bd k).sat Q :=
  sat_bd (sat_imp (draw_run hn T h0 h1) fun d t ⟨⟨r, e, b0, b1⟩, T⟩ => by subst e; exact h r t b0 b1 T)
theorem draw_end {ns : List Int} (hn : ns.length ≤ 63) {n : Nat} {τ : Tau} (T : Town ns n τ) {many : Int} (h0 : 0 < many) (h1 : many < 1073741824) {Q : D → Tau → Prop}
    (h : ∀ r τ', 0 ≤ r → r < many → Town ns n τ' → Q (.int r) τ') : (m__law_draw [.scr ns, .obj n, .int many] τ).sat Q :=
  sat_imp (draw_run hn T h0 h1) fun d t ⟨⟨r, e, b0, b1⟩, T⟩ => by subst e; exact h r t b0 b1 T
/-! ### a hand, drawn -/
def inner (a : Int) : List Int := (List.range (5 - a.toNat)).map fun (k : Nat) => a + 1 + k
theorem rng_inner {a : Int} (h : Fg a) : rng2 [.int (a + 1), .int 6] = some ((inner a).map .int) := by
  rcases h.cases with rfl | rfl | rfl | rfl | rfl <;> rfl
theorem rng_fing : rng2 [.int 1, .int 6] = some (FING.map .int) := rfl
def base (i : Nat) : Nat := [0, 4, 7, 9, 10, 10].getD i 0
theorem base_step : ∀ i, i < 5 → base (i + 1) = base i + (4 - i) ∧ (base i < 4 ↔ i = 0) ∧ (i = 0 → base i = 0) ∧ (i ≠ 0 → 4 ≤ base i) ∧ base i ≤ 10 := by decide
/-- the spans found so far -/
def Found (n : Nat) (l : List (Int × Int)) : Prop := l.length = n ∧ ∀ i p, l[i]? = some p → SpOk i p
theorem Found.snoc {n : Nat} {l : List (Int × Int)} {p : Int × Int} (h : Found n l) (hp : SpOk n p) : Found (n + 1) (l ++ [p]) := by
  refine ⟨by simp [h.1], fun i q e => ?_⟩
  rcases Nat.lt_or_ge i l.length with z | z
  · rw [List.getElem?_append_left z] at e
    exact h.2 i q e
  · rw [List.getElem?_append_right z] at e
    have : i - l.length = 0 := by
      rcases Nat.eq_zero_or_pos (i - l.length) with z2 | z2
      · exact z2
      · rw [List.getElem?_eq_none (by simp; omega)] at e; cases e
    rw [this] at e
    cases e
    have : i = n := by have := h.1; omega
    rw [this]
    exact hp
theorem hand_run {ns : List Int} (hn : ns.length ≤ 63) {n : Nat} {τ : Tau} (T : Town ns n τ) : (m__law_hand [.scr ns, .obj n] τ).sat fun d τ' => (∃ h : Hand, h.Ok ∧ d = h.d) ∧ Town ns n τ' := by
  simp [m__law_hand, B__law_hand, rng_fing]
  refine loop_sat D.int (fun i ρ τ => Town ns n τ ∧ ∃ l a b c d, Found (base i) l ∧ ρ = [.fz (.scr ns), .fz (.obj n), .ow (.lst (l.map pD)), a, b, c, d]) FING ⟨T, [], _, _, _, _, ⟨rfl, by simp⟩, rfl⟩ ?_ ?_
  · rintro i a _ τ1 ha ⟨T1, l, x, y, z, u, hl, rfl⟩
    have hf : Fg a := fing_fg.mp (List.mem_of_getElem? ha)
    have hi : i < 5 := by
      rcases Nat.lt_or_ge i 5 with z | z
      · exact z
      · rw [List.getElem?_eq_none (by simpa [FING] using z)] at ha; cases ha
    have hai : a = (i : Int) + 1 := by
      have : FING[i]? = some ((i : Int) + 1) := by
        have : ∀ j : Nat, j < 5 → FING[j]? = some ((j : Int) + 1) := by decide
        exact this i hi
      rw [ha] at this
      exact Option.some.inj this
    refine ⟨_, bindD_name _ _ _, ?_⟩
    simp [rng_inner hf]
    obtain ⟨b1, b2, b3, b4, b5⟩ := base_step i hi
    have hil : (inner a).length = 4 - i := by simp [inner]; omega
    refine loop_satE D.int (fun j ρ τ => Town ns n τ ∧ ∃ l b c d, Found (base i + j) l ∧ ρ = [.fz (.scr ns), .fz (.obj n), .ow (.lst (l.map pD)), .fz (.int a), b, c, d]) (inner a) ⟨T1, l, _, _, _, hl, rfl⟩ ?_ ?_
    · rintro j b _ τ2 hb ⟨T2, l, y, z, u, hl, rfl⟩
      have hj : j < 4 - i := by
        rcases Nat.lt_or_ge j (4 - i) with z | z
        · exact z
        · rw [List.getElem?_eq_none (by rw [hil]; exact z)] at hb; cases hb
      have hbv : b = a + 1 + j := by
        unfold inner at hb
        rw [List.getElem?_map, List.getElem?_range (by omega)] at hb
        exact (Option.some.inj hb).symm
      have hlen : l.length < 1000000 := by have := hl.1; omega
      refine ⟨_, bindD_name _ _ _, ?_⟩
      simp [gMul_int 2 _ (.inl ⟨by decide, by decide⟩)]
      refine draw_bd hn T2 (by omega) (by omega) fun r τ3 r0 r1 T3 => ?_
      simp
      by_cases h1 : a = 1
      · simp [h1]
        refine draw_bd hn T3 (by decide) (by decide) fun q τ4 q0 q1 T4 => ?_
        simp [hlen]
        refine ⟨T4, l ++ [(if 1 - q < 1 + r then 1 - q else 1 + r, 1 + r)], hl.snoc ⟨?_, ?_, ?_, ?_⟩, by simp [pD]⟩
        all_goals (try (rw [if_pos (by omega)]))
        all_goals (try dsimp only)
        all_goals (try split)
        all_goals omega
      · simp [h1]
        have ni : i ≠ 0 := by omega
        refine draw_bd hn T3 (by decide) (by decide) fun q τ4 q0 q1 T4 => ?_
        by_cases hq : q = 0
        · simp [hq, hlen]
          refine ⟨T4, l ++ [(if 2 < 1 + r then 2 else 1 + r, 1 + r)], hl.snoc ⟨?_, ?_, ?_, ?_⟩, by simp [pD]⟩
          all_goals (try (rw [if_neg (by omega)]))
          all_goals (try dsimp only)
          all_goals (try split)
          all_goals omega
        · simp [hq, hlen]
          refine ⟨T4, l ++ [(1, 1 + r)], hl.snoc ⟨?_, ?_, ?_, ?_⟩, by simp [pD]⟩
          all_goals (try (rw [if_neg (by omega)]))
          all_goals (try dsimp only)
          all_goals omega
    · rintro _ τ2 ⟨T2, l, y, z, u, hl, rfl⟩
      rw [hil, ← b1] at hl
      exact ⟨_, rfl, T2, l, hl, _, _, _, _, rfl⟩
  · rintro _ τ1 ⟨T1, l, x, y, z, u, hl, rfl⟩
    simp
    refine draw_bd hn T1 (by decide) (by decide) fun r τ2 r0 r1 T2 => ?_
    have hop : ∃ hop : Int, gIxA (.tup [.int 0, .int 0, .int 1, .int 2]) (.int r) = some (.int hop) ∧ 0 ≤ hop ∧ hop ≤ 3 := by
      have : r = 0 ∨ r = 1 ∨ r = 2 ∨ r = 3 := by omega
      rcases this with rfl | rfl | rfl | rfl
      · exact ⟨0, rfl, by decide, by decide⟩
      · exact ⟨0, rfl, by decide, by decide⟩
      · exact ⟨1, rfl, by decide, by decide⟩
      · exact ⟨2, rfl, by decide, by decide⟩
    obtain ⟨hop, e, h0, h3⟩ := hop
    simp [e]
    exact ⟨⟨⟨l, hop⟩, ⟨hl.1, hl.2, h0, h3⟩, rfl⟩, T2⟩
end KF
set_option maxHeartbeats 1000000
/-! KM5: membership, slices, steps there and back. -/
namespace KF
open L2
theorem any_int (x : Int) (l : List Int) : ((l.map D.int).any fun y => deq y (.int x)) = decide (x ∈ l) := by
  rw [List.any_map]
  induction l with
  | nil => rfl
  | cons a l ih =>
    rw [List.any_cons, ih]
    simp only [Function.comp, deq_int]
    by_cases h : a = x
    · simp [h]
    · have : ¬ x = a := fun z => h z.symm
      simp [h, this]
theorem flat_ints (l : List Int) : (l.map D.int).all flatD = true := by simp [flatD]
@[simp] theorem gIn_iT (x : Int) (l : List Int) : gIn (.int x) (iT l) = some (.bl (decide (x ∈ l))) := by
  have : gInF false (.int x) (iT l) = some (.bl (decide (x ∈ l))) := by
    show (if _ then _ else _) = _
    rw [if_pos ⟨rfl, flat_ints l⟩]
    simp only [Bool.false_eq_true, if_false, any_int]
  simp [gIn, this]
@[simp] theorem gIn_iL (x : Int) (l : List Int) : gIn (.int x) (iL l) = some (.bl (decide (x ∈ l))) := by
  have : gInF false (.int x) (iL l) = some (.bl (decide (x ∈ l))) := by
    show (if _ then _ else _) = _
    rw [if_pos ⟨rfl, flat_ints l⟩]
    simp only [Bool.false_eq_true, if_false, any_int]
  simp [gIn, this]
@[simp] theorem gNotIn_iT (x : Int) (l : List Int) : gNotIn (.int x) (iT l) = some (.bl (!decide (x ∈ l))) := by
  have : gInF true (.int x) (iT l) = some (.bl (!decide (x ∈ l))) := by
    show (if _ then _ else _) = _
    rw [if_pos ⟨rfl, flat_ints l⟩]
    simp only [if_true, any_int]
  simp [gNotIn, this]
@[simp] theorem gNotIn_iL (x : Int) (l : List Int) : gNotIn (.int x) (iL l) = some (.bl (!decide (x ∈ l))) := by
  have : gInF true (.int x) (iL l) = some (.bl (!decide (x ∈ l))) := by
    show (if _ then _ else _) = _
    rw [if_pos ⟨rfl, flat_ints l⟩]
    simp only [if_true, any_int]
  simp [gNotIn, this]
/-! slices -/
theorem cut_to (l : List D) (n : Nat) : cutD l none (some (n : Int)) = l.take n := by
  unfold cutD
  rw [HT.sIx_none, HT.sIx_nat]
  simp [Nat.sub_zero]
theorem cut_from (l : List D) (n : Nat) : cutD l (some (n : Int)) none = l.drop n := by
  unfold cutD
  rw [HT.sIx_none, HT.sIx_nat]
  by_cases h : n ≤ l.length
  · rw [Nat.min_eq_left h, List.take_of_length_le (by simp)]
  · rw [Nat.min_eq_right (by omega)]
    simp
    omega
theorem gSl_to (l : List D) (n : Nat) : gSl (.tup l) none (some (n : Int)) = some (.tup (l.take n)) := by
  show some (D.tup (cutD l none (some (n : Int)))) = _
  rw [cut_to]
theorem gSl_from (l : List D) (n : Nat) : gSl (.tup l) (some (n : Int)) none = some (.tup (l.drop n)) := by
  show some (D.tup (cutD l (some (n : Int)) none)) = _
  rw [cut_from]
/-! steps there and back -/
theorem Hand.st_back (h : Hand) (f s o : Int) : h.st f s o = h.st o (-s) f := by
  unfold Hand.st
  by_cases e : f = o
  · subst e; simp
  · have e' : ¬ o = f := fun z => e z.symm
    rw [if_neg e, if_neg e']
    by_cases l : f < o
    · have : ¬ o < f := by omega
      simp [l, this]
    · have : o < f := by omega
      simp [l, this]
theorem Hand.st_self (h : Hand) (f s : Int) : h.st f s f = decide ((s.natAbs : Int) ≤ h.hop) := by
  unfold Hand.st
  simp
theorem Hand.mem_af1 {h : Hand} {f s o : Int} : o ∈ h.af [f] s ↔ Fg o ∧ h.st f s o = true := by
  rw [Hand.mem_af]
  simp
theorem Hand.mem_steps {h : Hand} {s : Int} : s ∈ h.steps ↔ (-12 ≤ s ∧ s ≤ 12) ∧ ∃ f o, Fg f ∧ Fg o ∧ h.st f s o = true := by
  unfold Hand.steps
  rw [List.mem_filter, mem_stepsD]
  simp only [Bool.not_eq_true', decide_eq_false_iff_not]
  refine and_congr_right fun _ => ⟨fun hne => ?_, fun ⟨f, o, hf, ho, e⟩ z => ?_⟩
  · obtain ⟨o, ho⟩ := List.exists_mem_of_ne_nil _ hne
    obtain ⟨h1, f, h2, h3⟩ := Hand.mem_af.mp ho
    exact ⟨f, o, fing_fg.mp h2, h1, h3⟩
  · have : o ∈ h.af FING s := Hand.mem_af.mpr ⟨ho, f, fing_fg.mpr hf, e⟩
    rw [z] at this
    cases this
theorem fing_pw : FING.Pairwise (· < ·) := by decide
theorem Hand.af_pw (h : Hand) (fs : List Int) (s : Int) : (h.af fs s).Pairwise (· < ·) := fing_pw.filter _
theorem steps_pw : stepsD.Pairwise (· < ·) := by decide +kernel
theorem Hand.steps_pw (h : Hand) : h.steps.Pairwise (· < ·) := KF.steps_pw.filter _
theorem ssD_pw {l : List Int} (h : l.Pairwise (· < ·)) (hl : l.length < 64) : ssD (iT l) = some (iL l) := by
  have e : sdI l = l := pw_same (pw_sdI l) h fun k => mem_sdI
  unfold ssD
  show ((intsD (l.map D.int)).bind _) = _
  rw [intsD_map]
  show (if _ then _ else _) = _
  rw [e, if_pos ⟨by omega, hl⟩]
theorem neg_rev (l : List Int) (h : l.Pairwise (· < ·)) (s : ∀ x, x ∈ l ↔ -x ∈ l) : (l.reverse.map fun x => -x) = l := by
  refine pw_same ?_ h fun k => ?_
  · rw [List.pairwise_map, List.pairwise_reverse]
    exact h.imp fun h => by omega
  · rw [List.mem_map]
    constructor
    · rintro ⟨x, hx, rfl⟩; exact (s x).mp (List.mem_reverse.mp hx)
    · intro hk; exact ⟨-k, List.mem_reverse.mpr ((s k).mp hk), by omega⟩
theorem Hand.steps_back (h : Hand) (x : Int) : x ∈ h.steps ↔ -x ∈ h.steps := by
  have one : ∀ x, x ∈ h.steps → -x ∈ h.steps := fun x hx => by
    obtain ⟨b, f, o, hf, ho, e⟩ := Hand.mem_steps.mp hx
    rw [Hand.st_back] at e
    exact Hand.mem_steps.mpr ⟨by omega, o, f, ho, hf, e⟩
  refine ⟨one x, fun hx => ?_⟩
  have := one (-x) hx
  rwa [Int.neg_neg] at this
/-! hands as data -/
theorem okd_hand (h : Hand) : okd 32 h.d = true := by
  show okd 32 (.tup [.tup (h.sp.map pD), .int h.hop]) = true
  rw [okd_tup]
  simp only [List.all_cons, List.all_nil, Bool.and_true, Bool.and_eq_true]
  refine ⟨?_, okd_int _ _⟩
  rw [okd_tup, List.all_map]
  exact List.all_eq_true.mpr fun p _ => okd_ints 29 [p.1, p.2]
theorem deq_pair (p q : Int × Int) : deq (pD p) (pD q) = decide (p = q) := by
  have := deq_iT [p.1, p.2] [q.1, q.2]
  rw [show pD p = iT [p.1, p.2] from rfl, show pD q = iT [q.1, q.2] from rfl, this]
  obtain ⟨a, b⟩ := p
  obtain ⟨c, d⟩ := q
  simp
theorem eqv_pairs : ∀ a b : List (Int × Int), PySem.PyData.eqvAll (toPys (a.map pD)) (toPys (b.map pD)) = decide (a = b)
  | [], [] => by rw [List.map_nil, toPys]; rfl
  | [], b :: l => by rw [List.map_nil, toPys, List.map_cons, toPys]; rfl
  | a :: l, [] => by rw [List.map_nil, toPys, List.map_cons, toPys]; rfl
  | a :: l, b :: r => by
    rw [List.map_cons, List.map_cons, toPys, toPys, PySem.PyData.eqvAll, eqv_pairs l r]
    have : PySem.PyData.eqv (toPy (pD a)) (toPy (pD b)) = decide (a = b) := deq_pair a b
    rw [this]
    by_cases h1 : a = b <;> by_cases h2 : l = r <;> simp [h1, h2]
theorem deq_hand (h k : Hand) : deq h.d k.d = (decide (h.sp = k.sp) && decide (h.hop = k.hop)) := by
  unfold deq Hand.d
  have e1 : PySem.PyData.eqv (toPy (.tup (h.sp.map pD))) (toPy (.tup (k.sp.map pD))) = decide (h.sp = k.sp) := by rw [toPy, toPy, PySem.PyData.eqv, eqv_pairs]
  have e2 : PySem.PyData.eqv (toPy (.int h.hop)) (toPy (.int k.hop)) = decide (h.hop = k.hop) := deq_int _ _
  rw [toPy, toPy, PySem.PyData.eqv, toPys, toPys, toPys, toPys, toPys, PySem.PyData.eqvAll, PySem.PyData.eqvAll, e1, e2]
  show (_ && (_ && true)) = _
  rw [Bool.and_true]
theorem gEq_hand (h k : Hand) : gEq h.d k.d = some (.bl (decide (h.sp = k.sp) && decide (h.hop = k.hop))) := by
  unfold gEq
  rw [if_pos ⟨okd_hand h, okd_hand k⟩, deq_hand]
/-! ranges -/
def upto (n : Nat) : List Int := (List.range n).map fun (i : Nat) => (i : Int)
theorem rng1_run (n : Nat) (h : n ≤ 1000000) : rng1 [.int (n : Int)] = some ((upto n).map .int) := by
  show (if _ then _ else _) = _
  rw [if_pos ⟨by show -((1000000 : Nat) : Int) ≤ _; omega, by show _ ≤ ((1000000 : Nat) : Int); omega⟩]
  unfold rngD upto
  simp [Function.comp_def]
theorem upto_get {n i : Nat} {a : Int} (h : (upto n)[i]? = some a) : a = i ∧ i < n := by
  unfold upto at h
  rw [List.getElem?_map] at h
  obtain ⟨j, e, rfl⟩ := Option.map_eq_some_iff.mp h
  rcases Nat.lt_or_ge i n with z | z
  · rw [List.getElem?_range z] at e
    cases e
    exact ⟨rfl, z⟩
  · rw [List.getElem?_eq_none (by simpa using z)] at e; cases e
theorem upto_mem {n : Nat} {a : Int} (h : a ∈ upto n) : 0 ≤ a ∧ a < n := by
  unfold upto at h
  obtain ⟨j, e, rfl⟩ := List.mem_map.mp h
  have := List.mem_range.mp e
  omega
theorem upto_len (n : Nat) : (upto n).length = n := by simp [upto]
end KF
set_option maxHeartbeats 1000000
/-! KM6: walks of fingers over rows of steps, plain. -/
namespace KF
open L2
/-- from finger f over the steps p to finger g -/
def Hand.Wk (h : Hand) : List Int → Int → Int → Prop
  | [], f, g => f = g
  | s :: p, f, g => ∃ k, Fg k ∧ h.st f s k = true ∧ Hand.Wk h p k g
/-- the steps can be played -/
def Hand.Pl (h : Hand) (p : List Int) : Prop := ∃ f g, Fg f ∧ h.Wk p f g
theorem Hand.Wk.fg {h : Hand} : ∀ {p : List Int} {f g : Int}, h.Wk p f g → Fg f → Fg g
  | [], _, _, e, hf => by cases e; exact hf
  | _ :: _, _, _, ⟨_, hk, _, w⟩, _ => w.fg hk
theorem Hand.wk_append {h : Hand} : ∀ {p q : List Int} {f g : Int}, h.Wk (p ++ q) f g ↔ ∃ k, h.Wk p f k ∧ h.Wk q k g
  | [], q, f, g => ⟨fun w => ⟨f, rfl, w⟩, fun ⟨k, e, w⟩ => by cases e; exact w⟩
  | s :: p, q, f, g => by
    constructor
    · rintro ⟨k, hk, e, w⟩
      obtain ⟨j, w1, w2⟩ := Hand.wk_append.mp w
      exact ⟨j, ⟨k, hk, e, w1⟩, w2⟩
    · rintro ⟨j, ⟨k, hk, e, w1⟩, w2⟩
      exact ⟨k, hk, e, Hand.wk_append.mpr ⟨j, w1, w2⟩⟩
theorem Hand.wk_one {h : Hand} {s f g : Int} : h.Wk [s] f g ↔ Fg g ∧ h.st f s g = true := by
  constructor
  · rintro ⟨k, hk, e, rfl⟩; exact ⟨hk, e⟩
  · rintro ⟨hk, e⟩; exact ⟨g, hk, e, rfl⟩
/-- the row turned round -/
def turnB (p : List Int) : List Int := p.reverse.map fun s => -s
theorem turnB_cons (s : Int) (p : List Int) : turnB (s :: p) = turnB p ++ [-s] := by simp [turnB]
theorem turnB_append (p q : List Int) : turnB (p ++ q) = turnB q ++ turnB p := by simp [turnB]
theorem turnB_turnB (p : List Int) : turnB (turnB p) = p := by
  unfold turnB
  simp [Function.comp_def]
theorem turnB_length (p : List Int) : (turnB p).length = p.length := by simp [turnB]
theorem Hand.wk_back {h : Hand} : ∀ {p : List Int} {f g : Int}, Fg f → h.Wk p f g → h.Wk (turnB p) g f
  | [], _, _, _, e => by cases e; rfl
  | s :: p, f, g, hf, ⟨k, hk, e, w⟩ => by
    rw [turnB_cons, Hand.wk_append]
    refine ⟨k, Hand.wk_back hk w, Hand.wk_one.mpr ⟨hf, ?_⟩⟩
    rw [← Hand.st_back]
    exact e
theorem Hand.pl_back {h : Hand} {p : List Int} : h.Pl (turnB p) ↔ h.Pl p := by
  have one : ∀ p, h.Pl p → h.Pl (turnB p) := fun p ⟨f, g, hf, w⟩ => ⟨g, f, w.fg hf, Hand.wk_back hf w⟩
  refine ⟨fun x => ?_, one p⟩
  have := one _ x
  rwa [turnB_turnB] at this
theorem Hand.pl_left {h : Hand} {p q : List Int} (x : h.Pl (p ++ q)) : h.Pl p := by
  obtain ⟨f, g, hf, w⟩ := x
  obtain ⟨k, w1, _⟩ := Hand.wk_append.mp w
  exact ⟨f, k, hf, w1⟩
theorem Hand.pl_right {h : Hand} {p q : List Int} (x : h.Pl (p ++ q)) : h.Pl q := by
  obtain ⟨f, g, hf, w⟩ := x
  obtain ⟨k, w1, w2⟩ := Hand.wk_append.mp w
  exact ⟨k, g, w1.fg hf, w2⟩
/-! ### the sets -/
def Hand.T (h : Hand) (fs : List Int) (p : List Int) : List Int := p.foldl h.af fs
theorem Hand.mem_T {h : Hand} : ∀ {p : List Int} {fs : List Int} {g : Int}, (∀ f ∈ fs, Fg f) → (g ∈ h.T fs p ↔ ∃ f ∈ fs, h.Wk p f g)
  | [], fs, g, _ => ⟨fun m => ⟨g, m, rfl⟩, fun ⟨f, m, e⟩ => by cases e; exact m⟩
  | s :: p, fs, g, hf => by
    show g ∈ h.T (h.af fs s) p ↔ _
    rw [Hand.mem_T fun f m => Hand.af_fg m]
    constructor
    · rintro ⟨k, m, w⟩
      obtain ⟨hk, f, hm, e⟩ := Hand.mem_af.mp m
      exact ⟨f, hm, k, hk, e, w⟩
    · rintro ⟨f, hm, k, hk, e, w⟩
      exact ⟨k, Hand.mem_af.mpr ⟨hk, f, hm, e⟩, w⟩
theorem Hand.T_ne {h : Hand} {p : List Int} : h.T FING p ≠ [] ↔ h.Pl p := by
  constructor
  · intro x
    obtain ⟨g, m⟩ := List.exists_mem_of_ne_nil _ x
    obtain ⟨f, hf, w⟩ := (Hand.mem_T fing_all).mp m
    exact ⟨f, g, fing_fg.mp hf, w⟩
  · rintro ⟨f, g, hf, w⟩ z
    have : g ∈ h.T FING p := (Hand.mem_T fing_all).mpr ⟨f, fing_fg.mpr hf, w⟩
    rw [z] at this
    cases this
theorem Hand.T_append (h : Hand) (fs p q : List Int) : h.T fs (p ++ q) = h.T (h.T fs p) q := by simp [Hand.T]
theorem Hand.T_fg {h : Hand} {fs p : List Int} (hf : ∀ f ∈ fs, Fg f) : ∀ f ∈ h.T fs p, Fg f := fun g m => by
  obtain ⟨f, hm, w⟩ := (Hand.mem_T hf).mp m
  exact w.fg (hf f hm)
theorem Hand.T_len {h : Hand} : ∀ {p fs : List Int}, fs.length ≤ 5 → (h.T fs p).length ≤ 5
  | [], _, l => l
  | s :: p, fs, _ => by
    show (h.T (h.af fs s) p).length ≤ 5
    exact Hand.T_len (h.af_len fs s)
/-! ### again and again -/
def rep (p : List Int) (n : Nat) : List Int := (List.replicate n p).flatten
theorem rep_zero (p : List Int) : rep p 0 = [] := rfl
theorem rep_succ (p : List Int) (n : Nat) : rep p (n + 1) = p ++ rep p n := by simp [rep, List.replicate_succ]
theorem rep_add (p : List Int) : ∀ (a b : Nat), rep p (a + b) = rep p a ++ rep p b
  | 0, b => by rw [Nat.zero_add]; rfl
  | a + 1, b => by rw [Nat.add_right_comm, rep_succ, rep_add p a b, rep_succ, List.append_assoc]
theorem rep_one (p : List Int) : rep p 1 = p := by simp [rep]
theorem rep_succ' (p : List Int) (n : Nat) : rep p (n + 1) = rep p n ++ p := by rw [rep_add, rep_one]
theorem rep_mul (p : List Int) (a b : Nat) : rep (rep p a) b = rep p (a * b) := by
  induction b with
  | zero => rfl
  | succ b ih => rw [rep_succ', ih, Nat.mul_succ, rep_add]
theorem rep_length (p : List Int) (n : Nat) : (rep p n).length = n * p.length := by
  induction n with
  | zero => simp [rep]
  | succ n ih => rw [rep_succ, List.length_append, ih, Nat.succ_mul]; omega
theorem turnB_rep (p : List Int) (n : Nat) : turnB (rep p n) = rep (turnB p) n := by
  induction n with
  | zero => rfl
  | succ n ih => rw [rep_succ, turnB_append, ih, rep_succ']
theorem Hand.pl_le {h : Hand} {p : List Int} {a b : Nat} (l : a ≤ b) (x : h.Pl (rep p b)) : h.Pl (rep p a) := by
  obtain ⟨c, rfl⟩ : ∃ c, b = a + c := ⟨b - a, by omega⟩
  rw [rep_add] at x
  exact Hand.pl_left x
/-- a closed walk can be gone on for ever -/
theorem Hand.wk_rep {h : Hand} {p : List Int} {f : Int} (w : h.Wk p f f) : ∀ n, h.Wk (rep p n) f f
  | 0 => rfl
  | n + 1 => by rw [rep_succ]; exact Hand.wk_append.mpr ⟨f, w, Hand.wk_rep w n⟩
/-- the fingers at the turns' ends -/
theorem Hand.wk_ends {h : Hand} {p : List Int} : ∀ {n : Nat} {f g : Int}, h.Wk (rep p n) f g → ∃ e : Nat → Int, e 0 = f ∧ e n = g ∧ ∀ i, i < n → h.Wk p (e i) (e (i + 1))
  | 0, f, g, w => ⟨fun _ => f, rfl, w, fun i hi => by omega⟩
  | n + 1, f, g, w => by
    rw [rep_succ'] at w
    obtain ⟨k, w1, w2⟩ := Hand.wk_append.mp w
    obtain ⟨e, e0, en, st⟩ := Hand.wk_ends w1
    refine ⟨fun i => if i ≤ n then e i else g, by simp [e0], if_neg (by omega), fun i hi => ?_⟩
    by_cases z : i < n
    · have z1 : i ≤ n := by omega
      have z2 : i + 1 ≤ n := by omega
      simp only [z1, z2, if_true]
      exact st i z
    · have : i = n := by omega
      subst this
      simp only [Nat.le_refl, if_true, Nat.not_succ_le_self, if_false]
      rw [en]
      exact w2
theorem Hand.wk_part {h : Hand} {p : List Int} {e : Nat → Int} {n : Nat} (st : ∀ i, i < n → h.Wk p (e i) (e (i + 1))) (i : Nat) : ∀ j, i + j ≤ n → h.Wk (rep p j) (e i) (e (i + j))
  | 0, _ => rfl
  | j + 1, hj => by
    rw [rep_succ']
    exact Hand.wk_append.mpr ⟨e (i + j), Hand.wk_part st i j (by omega), st (i + j) (by omega)⟩
/-- six fingers: two are alike -/
theorem six {e : Nat → Int} (h : ∀ i, i ≤ 5 → Fg (e i)) : ∃ i j, i < j ∧ j ≤ 5 ∧ e i = e j := by
  refine Classical.byContradiction fun hn => ?_
  have ne : ∀ i j, i < j → j ≤ 5 → e i ≠ e j := fun i j a b c => hn ⟨i, j, a, b, c⟩
  have h0 := h 0 (by omega); have h1 := h 1 (by omega); have h2 := h 2 (by omega); have h3 := h 3 (by omega); have h4 := h 4 (by omega); have h5 := h 5 (by omega)
  have a01 := ne 0 1 (by omega) (by omega); have a02 := ne 0 2 (by omega) (by omega); have a03 := ne 0 3 (by omega) (by omega); have a04 := ne 0 4 (by omega) (by omega); have a05 := ne 0 5 (by omega) (by omega)
  have a12 := ne 1 2 (by omega) (by omega); have a13 := ne 1 3 (by omega) (by omega); have a14 := ne 1 4 (by omega) (by omega); have a15 := ne 1 5 (by omega) (by omega)
  have a23 := ne 2 3 (by omega) (by omega); have a24 := ne 2 4 (by omega) (by omega); have a25 := ne 2 5 (by omega) (by omega)
  have a34 := ne 3 4 (by omega) (by omega); have a35 := ne 3 5 (by omega) (by omega); have a45 := ne 4 5 (by omega) (by omega)
  have key : ∀ x0 x1 x2 x3 x4 x5 : Fin 5, x0 = x1 ∨ x0 = x2 ∨ x0 = x3 ∨ x0 = x4 ∨ x0 = x5 ∨ x1 = x2 ∨ x1 = x3 ∨ x1 = x4 ∨ x1 = x5 ∨ x2 = x3 ∨ x2 = x4 ∨ x2 = x5 ∨ x3 = x4 ∨ x3 = x5 ∨ x4 = x5 := by decide +kernel
  have tf : ∀ x : Int, Fg x → ∃ y : Fin 5, (y.val : Int) + 1 = x := fun x hx => ⟨⟨(x - 1).toNat, by have := hx.1; have := hx.2; omega⟩, by have := hx.1; have := hx.2; simp; omega⟩
  obtain ⟨y0, q0⟩ := tf _ h0; obtain ⟨y1, q1⟩ := tf _ h1; obtain ⟨y2, q2⟩ := tf _ h2; obtain ⟨y3, q3⟩ := tf _ h3; obtain ⟨y4, q4⟩ := tf _ h4; obtain ⟨y5, q5⟩ := tf _ h5
  have fin : ∀ {a b : Fin 5} {x y : Int}, (a.val : Int) + 1 = x → (b.val : Int) + 1 = y → a = b → x = y := fun p q r => by rw [← p, ← q, r]
  rcases key y0 y1 y2 y3 y4 y5 with z | z | z | z | z | z | z | z | z | z | z | z | z | z | z
  · exact a01 (fin q0 q1 z)
  · exact a02 (fin q0 q2 z)
  · exact a03 (fin q0 q3 z)
  · exact a04 (fin q0 q4 z)
  · exact a05 (fin q0 q5 z)
  · exact a12 (fin q1 q2 z)
  · exact a13 (fin q1 q3 z)
  · exact a14 (fin q1 q4 z)
  · exact a15 (fin q1 q5 z)
  · exact a23 (fin q2 q3 z)
  · exact a24 (fin q2 q4 z)
  · exact a25 (fin q2 q5 z)
  · exact a34 (fin q3 q4 z)
  · exact a35 (fin q3 q5 z)
  · exact a45 (fin q4 q5 z)
/-- five turns: a loop of at most five turns -/
theorem Hand.loop_of {h : Hand} {p : List Int} (x : h.Pl (rep p 5)) : ∃ m f, 1 ≤ m ∧ m ≤ 5 ∧ Fg f ∧ h.Wk (rep p m) f f := by
  obtain ⟨f, g, hf, w⟩ := x
  obtain ⟨e, e0, _, st⟩ := Hand.wk_ends w
  have fg : ∀ i, i ≤ 5 → Fg (e i) := fun i hi => by
    have := Hand.wk_part st 0 i (by omega)
    rw [Nat.zero_add, e0] at this
    exact this.fg hf
  obtain ⟨i, j, hij, hj, q⟩ := six fg
  have := Hand.wk_part st i (j - i) (by omega)
  rw [show i + (j - i) = j by omega, ← q] at this
  exact ⟨j - i, e i, by omega, by omega, fg i (by omega), this⟩
/-- five turns, then any number -/
theorem Hand.endless {h : Hand} {p : List Int} (x : h.Pl (rep p 5)) (n : Nat) : h.Pl (rep p n) := by
  obtain ⟨m, f, h1, _, hf, w⟩ := Hand.loop_of x
  have := Hand.wk_rep w n
  rw [rep_mul] at this
  exact Hand.pl_le (show n ≤ m * n by cases m with | zero => omega | succ m => rw [Nat.succ_mul]; omega) ⟨f, f, hf, this⟩
theorem Hand.endless_iff {h : Hand} {p : List Int} : h.Pl (rep p 5) ↔ ∃ m f, 1 ≤ m ∧ m ≤ 5 ∧ Fg f ∧ h.Wk (rep p m) f f := by
  refine ⟨Hand.loop_of, fun ⟨m, f, h1, _, hf, w⟩ => ?_⟩
  have := Hand.wk_rep w 5
  rw [rep_mul] at this
  exact Hand.pl_le (show 5 ≤ m * 5 by omega) ⟨f, f, hf, this⟩
end KF
set_option maxHeartbeats 1000000
/-! KM7: patterns. -/
namespace KF
open L2
/-- a pattern -/
structure Pat (p : List Int) : Prop where
  l1 : 1 ≤ p.length
  l8 : p.length ≤ 8
  st : ∀ s ∈ p, -12 ≤ s ∧ s ≤ 12
theorem is_pattern_run {p : List Int} (hp : Pat p) (τ : Tau) : m_is_pattern [iT p] τ = .ok (.bl true) τ := by
  have h1 := hp.l1
  have h8 := hp.l8
  have this : p.all (fun s => decide (-12 ≤ s) && decide (s ≤ 12)) = true := List.all_eq_true.mpr fun s hs => by simpa using hp.st s hs
  have e1 : (1 : Int) ≤ p.length := by omega
  have e2 : (p.length : Int) ≤ 8 := by omega
  simp [m_is_pattern, B_is_pattern, isiD, tyN, isiB, e1, e2]
  rw [fLc_all D.int p (fun s => .bl (decide (-12 ≤ s) && decide (s ≤ 12))) (by simp) (by show _ ≤ 1000000; omega) fun s _ => ⟨_, bindD_name _ _ _, by simp [wipeE, is_between_run]⟩]
  simp only [bd_ok, gAll_map, opt_some_r, this]
theorem check_pattern_run {h : Hand} (hh : h.Ok) {p : List Int} (hp : Pat p) (τ : Tau) : m_check_pattern [h.d, iT p] τ = .ok .non τ := by
  simp [m_check_pattern, B_check_pattern, check_hand_run hh, is_pattern_run hp]
theorem turned_run {h : Hand} (hh : h.Ok) {fs : List Int} (hf : ∀ f ∈ fs, Fg f) (hl : fs.length ≤ 5) (p : List Int) (τ : Tau) : m_turned [h.d, iT p, iT fs] τ = .ok (iT (h.T fs p)) τ := by
  have key : ∀ (q fs : List Int) (x y : Sl), (∀ f ∈ fs, Fg f) → fs.length ≤ 5 → ∃ z, loopF (.name 3) (fAsg (.name 2) (fCallM m_after_step 3 (fCons (fVar 0) (fCons (fVar 2) (fCons (fVar 3) fNil))))) (q.map .int) [.fz h.d, x, .fz (iT fs), y] τ = .ok (.next [.fz h.d, x, .fz (iT (h.T fs q)), z]) τ := by
    intro q
    induction q with
    | nil => intro fs x y _ _; exact ⟨y, rfl⟩
    | cons s q ih =>
      intro fs x y hf hl
      obtain ⟨z, e⟩ := ih (h.af fs s) x (.fz (.int s)) (fun f m => Hand.af_fg m) (h.af_len fs s)
      refine ⟨z, ?_⟩
      have e1 := after_run hh hf (show fs.length ≤ 1000000 by omega) s τ
      simp only [List.map_cons, loopF_cons, bindD_name, opt_some_r, bd_ok, fAsg_r, fCallM_r, fCons_r, fVar_r, fNil_r, List.set_cons_succ, List.set_cons_zero, List.getElem?_cons_zero, List.getElem?_cons_succ, List.length_cons, List.length_nil, e1, loopK_next, if_true]
      exact e
  obtain ⟨z, e⟩ := key p fs (.fz (iT p)) .un hf hl
  simp only [m_turned, mOf_r, B_turned, fSeq_r, fFor_r, fItA_r, fVar_r, List.map_cons, List.map_nil, List.cons_append, List.nil_append, List.length_cons, List.length_nil, List.getElem?_cons_zero, List.getElem?_cons_succ, opt_some_r, bd_ok, items0_tup]
  show ((loopF _ _ _ [Sl.fz h.d, .fz (iT p), .fz (iT fs), .un] τ).bd _).bd _ = _
  rw [e]
  rfl
end KF
namespace KF
open L2
/-! ### turns -/
theorem whileF_succ (t : Ft) (body : En → M Out) (n : Nat) (ρ : En) (τ : Tau) : whileF t body (n + 1) ρ τ = (t ρ τ).bd fun b u => if b = true then (body ρ u).bd fun o u => loopK (whileF t body n) o u else .ok (.next ρ) u := by
  show M.bnd _ _ τ = _
  rw [bnd_r]
  congr 1
  funext b u
  split
  · rw [bnd_r]
  · rfl
/-- turns that can be played on from fs, at most k -/
def Hand.cnt (h : Hand) (p : List Int) : Nat → List Int → Nat
  | 0, _ => 0
  | k + 1, fs => if fs = [] then 0 else Hand.cnt h p k (h.T fs p) + 1
def Hand.turns (h : Hand) (p : List Int) : Nat := h.cnt p 5 (h.T FING p)
theorem Hand.cnt_le {h : Hand} {p : List Int} : ∀ {k : Nat} {fs : List Int}, h.cnt p k fs ≤ k
  | 0, _ => Nat.le_refl _
  | k + 1, fs => by
    unfold Hand.cnt
    split
    · exact Nat.zero_le _
    · have := Hand.cnt_le (h := h) (p := p) (k := k) (fs := h.T fs p); omega
theorem Hand.cnt_iff {h : Hand} {p : List Int} : ∀ {j k : Nat} {fs : List Int}, k ≤ j → (k ≤ h.cnt p j fs ↔ k = 0 ∨ h.T fs (rep p (k - 1)) ≠ [])
  | 0, k, fs, hk => by
    have : k = 0 := by omega
    subst this
    simp
  | j + 1, 0, fs, hk => by simp
  | j + 1, k + 1, fs, hk => by
    unfold Hand.cnt
    by_cases e : fs = []
    · subst e
      have : ∀ q : List Int, h.T [] q = [] := fun q => by
        induction q with
        | nil => rfl
        | cons s q ih => show h.T (h.af [] s) q = []; rw [show h.af [] s = [] by simp [Hand.af]]; exact ih
      simp [this]
    · rw [if_neg e]
      have ih := Hand.cnt_iff (h := h) (p := p) (j := j) (k := k) (fs := h.T fs p) (by omega)
      rw [show k + 1 ≤ h.cnt p j (h.T fs p) + 1 ↔ k ≤ h.cnt p j (h.T fs p) by omega, ih]
      cases k with
      | zero => simp [rep, Hand.T, e]
      | succ k => simp only [Nat.add_sub_cancel, Nat.succ_ne_zero, false_or]; rw [rep_succ, Hand.T_append]
theorem Hand.turns_iff {h : Hand} {p : List Int} {k : Nat} (hk : k ≤ 5) : k ≤ h.turns p ↔ h.Pl (rep p k) := by
  unfold Hand.turns
  rw [Hand.cnt_iff hk]
  cases k with
  | zero => simp only [true_or, true_iff]; exact ⟨1, 1, by decide, rfl⟩
  | succ k => simp only [Nat.succ_ne_zero, false_or, Nat.add_sub_cancel]; rw [← Hand.T_append, ← rep_succ, Hand.T_ne]
theorem Hand.turns_le {h : Hand} {p : List Int} : h.turns p ≤ 5 := Hand.cnt_le
end KF
set_option maxHeartbeats 1000000
/-! KM8: turns, steps along a passage. -/
namespace KF
open L2
theorem fing_le : FING.length ≤ 5 := by decide
theorem while_turns {h : Hand} (hh : h.Ok) (p : List Int) (τ : Tau) : ∀ (k : Nat) (many : Int) (fs : List Int) (n : Nat), (∀ f ∈ fs, Fg f) → fs.length ≤ 5 → many + k = 5 → k < n →
    ∃ z, whileF (fAnd (fB (f2 gNe (fBor 2) (fSz .tup fNil))) (fB (f2 gLt (fBor 3) (fC (.int 5))))) (fPar [2, 3] (fCons (fCallM m_turned 3 (fCons (fVar 0) (fCons (fVar 1) (fCons (fVar 2) fNil)))) (fCons (f2 gAdd (fBor 3) (fC (.int 1))) fNil))) n [.fz h.d, .fz (iT p), .fz (iT fs), .fz (.int many)] τ
      = .ok (.next [.fz h.d, .fz (iT p), z, .fz (.int (many + h.cnt p k fs))]) τ := by
  intro k
  induction k with
  | zero =>
    intro many fs n hf hl hm hn
    obtain ⟨n, rfl⟩ : ∃ m, n = m + 1 := ⟨n - 1, by omega⟩
    have : many = 5 := by omega
    subst this
    refine ⟨.fz (iT fs), ?_⟩
    rw [whileF_succ]
    by_cases e : fs = []
    · subst e; simp [Hand.cnt]
    · simp [Hand.cnt, e]
  | succ k ih =>
    intro many fs n hf hl hm hn
    obtain ⟨n, rfl⟩ : ∃ m, n = m + 1 := ⟨n - 1, by omega⟩
    rw [whileF_succ]
    by_cases e : fs = []
    · subst e; exact ⟨_, by simp [Hand.cnt]; rfl⟩
    · obtain ⟨z, hz⟩ := ih (many + 1) (h.T fs p) n (Hand.T_fg hf) (Hand.T_len hl) (by omega) (by omega)
      refine ⟨z, ?_⟩
      have e5 : many < 5 := by omega
      simp [e, e5, turned_run hh hf hl]
      rw [hz]
      simp [Hand.cnt, e]
      omega
theorem turns_of_run {h : Hand} (hh : h.Ok) (p : List Int) (τ : Tau) : m_turns_of [h.d, iT p] τ = .ok (.int (h.turns p)) τ := by
  obtain ⟨z, hz⟩ := while_turns hh p τ 5 0 (h.T FING p) FUEL (Hand.T_fg fing_all) (Hand.T_len fing_le) (by decide) (by decide)
  simp [m_turns_of, B_turns_of, c_fing, turned_run hh fing_all fing_le]
  rw [hz]
  simp [Hand.turns]
theorem can_repeat_run {h : Hand} (hh : h.Ok) {p : List Int} (hp : Pat p) {t : Int} (h1 : 1 ≤ t) (h9 : t ≤ 99) (τ : Tau) : m_can_repeat [h.d, iT p, .int t] τ = .ok (.bl (decide (min t 5 ≤ h.turns p))) τ := by
  simp [m_can_repeat, B_can_repeat, check_pattern_run hh hp, is_between_run, h1, h9, turns_of_run hh p]
  rw [show (if 5 < t then 5 else t) = min t 5 by split <;> omega]
theorem is_endless_run {h : Hand} (hh : h.Ok) {p : List Int} (hp : Pat p) (τ : Tau) : m_is_endless [h.d, iT p] τ = .ok (.bl (decide (h.turns p = 5))) τ := by
  simp [m_is_endless, B_is_endless, check_pattern_run hh hp, turns_of_run hh p]
  omega
def Hand.most (h : Hand) (p : List Int) : D := if h.turns p < 5 then .int (h.turns p) else .non
theorem most_turns_run {h : Hand} (hh : h.Ok) {p : List Int} (hp : Pat p) (τ : Tau) : m_most_turns [h.d, iT p] τ = .ok (h.most p) τ := by
  simp [m_most_turns, B_most_turns, check_pattern_run hh hp, turns_of_run hh p, Hand.most]
  by_cases e : h.turns p < 5
  · have : (h.turns p : Int) < 5 := by omega
    simp [e, this]
  · have : ¬ (h.turns p : Int) < 5 := by omega
    simp [e, this]
/-! ### passages -/
/-- the steps of a passage -/
def stepsIn (ps : List Int) : List Int := (ps.zip ps.tail).map fun x => x.2 - x.1
@[simp] theorem stepsIn_nil : stepsIn [] = [] := rfl
@[simp] theorem stepsIn_one (a : Int) : stepsIn [a] = [] := rfl
@[simp] theorem stepsIn_cons (a b : Int) (l : List Int) : stepsIn (a :: b :: l) = (b - a) :: stepsIn (b :: l) := rfl
theorem stepsIn_len : ∀ ps : List Int, (stepsIn ps).length = ps.length - 1
  | [] => rfl
  | [_] => rfl
  | a :: b :: l => by rw [stepsIn_cons, List.length_cons, stepsIn_len (b :: l)]; simp
structure Psg (ps : List Int) : Prop where
  len : ps.length ≤ 12
  nt : ∀ n ∈ ps, 0 ≤ n ∧ n ≤ 99
theorem is_note_run (n : Int) (τ : Tau) : m_is_note [.int n] τ = .ok (.bl (decide (0 ≤ n) && decide (n ≤ 99))) τ := by
  simp [m_is_note, B_is_note, is_between_run]
theorem is_passage_run {ps : List Int} (hp : Psg ps) (τ : Tau) : m_is_passage [iT ps] τ = .ok (.bl true) τ := by
  have h8 := hp.len
  have this : ps.all (fun s => decide (0 ≤ s) && decide (s ≤ 99)) = true := List.all_eq_true.mpr fun s hs => by simpa using hp.nt s hs
  have e2 : (ps.length : Int) ≤ 12 := by omega
  simp [m_is_passage, B_is_passage, isiD, tyN, isiB, e2]
  rw [fLc_all D.int ps (fun s => .bl (decide (0 ≤ s) && decide (s ≤ 99))) (by simp) (by show _ ≤ 1000000; omega) fun s _ => ⟨_, bindD_name _ _ _, by simp [wipeE, is_note_run]⟩]
  simp only [bd_ok, gAll_map, opt_some_r, this]
theorem check_both_run {h : Hand} (hh : h.Ok) {p : List Int} (hp : Psg p) (τ : Tau) : m_check_both [h.d, iT p] τ = .ok .non τ := by
  simp [m_check_both, B_check_both, check_hand_run hh, is_passage_run hp]
def pI (x : Int × Int) : D := .tup [.int x.1, .int x.2]
theorem zip_ints (a b : List Int) : zip2 [iT a, iT b] = some ((a.zip b).map pI) := by
  show some _ = _
  rw [List.zip_map]
  simp [Function.comp_def, pI]
theorem gSl_tail (l : List Int) : gSl (iT l) (some 1) none = some (iT l.tail) := by
  have := gSl_from (l.map D.int) 1
  rw [List.drop_one] at this
  rw [show ((1 : Nat) : Int) = 1 from rfl] at this
  rw [this, iT, ← List.map_tail]
theorem steps_in_run (ps : List Int) (hl : ps.length ≤ 1000000) (τ : Tau) : m_steps_in [iT ps] τ = .ok (iL (stepsIn ps)) τ := by
  simp only [m_steps_in, mOf_r, B_steps_in, fRet_r]
  rw [fLc_all pI (ps.zip ps.tail) (fun x => .int (x.2 - x.1)) ?_ ?_ ?_]
  · simp [stepsIn, Function.comp_def]
  · simp [gSl_tail, zip_ints]
  · rw [List.length_zip]; show _ ≤ 1000000; omega
  · intro x _
    exact ⟨_, by simp [pI, wipeE]; rfl, by simp⟩
/-! ### sets along steps -/
def Hand.along (h : Hand) : List Int → List Int → List (List Int)
  | fs, [] => [fs]
  | fs, s :: p => fs :: Hand.along h (h.af fs s) p
theorem Hand.along_len (h : Hand) : ∀ (p fs : List Int), (h.along fs p).length = p.length + 1
  | [], _ => rfl
  | s :: p, fs => by rw [Hand.along, List.length_cons, Hand.along_len h p, List.length_cons]
theorem Hand.along_get (h : Hand) : ∀ (p fs : List Int) (i : Nat), i ≤ p.length → (h.along fs p)[i]? = some (h.T fs (p.take i))
  | [], fs, 0, _ => rfl
  | [], fs, i + 1, hi => by simp at hi
  | s :: p, fs, 0, _ => rfl
  | s :: p, fs, i + 1, hi => by
    rw [Hand.along, List.getElem?_cons_succ, Hand.along_get h p _ i (by simpa using hi)]
    rfl
theorem Hand.along_last (h : Hand) (p fs : List Int) : ∃ l, h.along fs p = l ++ [h.T fs p] := by
  induction p generalizing fs with
  | nil => exact ⟨[], rfl⟩
  | cons s p ih =>
    obtain ⟨l, e⟩ := ih (h.af fs s)
    exact ⟨fs :: l, by rw [Hand.along, e]; rfl⟩
theorem Hand.along_fg {h : Hand} : ∀ {p fs : List Int}, (∀ f ∈ fs, Fg f) → ∀ l ∈ h.along fs p, ∀ f ∈ l, Fg f
  | [], fs, hf, l, hl => by rw [Hand.along, List.mem_singleton] at hl; subst hl; exact hf
  | s :: p, fs, hf, l, hl => by
    rw [Hand.along, List.mem_cons] at hl
    rcases hl with rfl | hl
    · exact hf
    · exact Hand.along_fg (fun f m => Hand.af_fg m) l hl
abbrev iLL (l : List (List Int)) : D := .lst (l.map iT)
theorem gIxA_last (l : List D) (x : D) : gIxA (.lst (l ++ [x])) (.int (-1)) = some x := by
  show ((atI (l ++ [x]) (-1)).or none) = _
  rw [atI_last]; rfl
theorem gIxA_lastT (l : List D) (x : D) : gIxA (.tup (l ++ [x])) (.int (-1)) = some x := by
  show ((atI (l ++ [x]) (-1)).or none) = _
  rw [atI_last]; rfl
theorem along_loop {h : Hand} (hh : h.Ok) (τ : Tau) (x : Sl) : ∀ (q fs : List Int) (acc : List (List Int)) (y : Sl), (∀ f ∈ fs, Fg f) → fs.length ≤ 5 → acc.length + q.length < 999999 →
    ∃ z, loopF (.name 3) (fApp 2 (fCallM m_after_step 3 (fCons (fVar 0) (fCons (f2 gIxA (fBor 2) (f1 gNeg (fC (.int 1)))) (fCons (fVar 3) fNil))))) (q.map .int) [.fz h.d, x, .ow (iLL (acc ++ [fs])), y] τ = .ok (.next [.fz h.d, x, .ow (iLL (acc ++ h.along fs q)), z]) τ := by
  intro q
  induction q with
  | nil => intro fs acc y _ _ _; exact ⟨y, rfl⟩
  | cons s q ih =>
    intro fs acc y hf hl hn
    obtain ⟨z, e⟩ := ih (h.af fs s) (acc ++ [fs]) (.fz (.int s)) (fun f m => Hand.af_fg m) (h.af_len fs s) (by simp at hn ⊢; omega)
    refine ⟨z, ?_⟩
    have e1 := after_run hh hf (show fs.length ≤ 1000000 by omega) s τ
    have e2 : gIxA (iLL (acc ++ [fs])) (.int (-1)) = some (iT fs) := by rw [iLL, List.map_append]; exact gIxA_last _ _
    have e3 : (List.map iT (acc ++ [fs])).length < SZ := by show _ < 1000000; simp at hn ⊢; omega
    simp only [List.map_cons, loopF_cons, bindD_name, opt_some_r, bd_ok, fApp_r, fCallM_r, fCons_r, fVar_r, fBor_r, f2_r, f1_r, fC_r, gNeg_int, fNil_r, List.set_cons_succ, List.set_cons_zero, List.getElem?_cons_zero, List.getElem?_cons_succ, List.length_cons, List.length_nil, e1, e2, e3, loopK_next, if_true, Option.bind_some, lstOf_ow]
    rw [Hand.along, show acc ++ fs :: h.along (h.af fs s) q = (acc ++ [fs]) ++ h.along (h.af fs s) q by simp, ← e]
    congr 5
    simp [iLL]
theorem sets_along_run {h : Hand} (hh : h.Ok) (p : List Int) (hl : p.length < 999999) {d : D} (hd : items0 d = some (p.map .int)) (τ : Tau) : m_sets_along [h.d, d] τ = .ok (iLL (h.along FING p)) τ := by
  obtain ⟨z, e⟩ := along_loop hh τ (.fz d) p FING [] .un fing_all fing_le (by simpa using hl)
  simp [m_sets_along, B_sets_along, c_fing, hd]
  rw [show D.lst [iT FING] = iLL ([] ++ [FING]) from rfl, e]
  simp
theorem can_play_run {h : Hand} (hh : h.Ok) {p : List Int} (hp : Psg p) (τ : Tau) : m_can_play [h.d, iT p] τ = .ok (.bl (!decide (h.T FING (stepsIn p) = []))) τ := by
  obtain ⟨l, e⟩ := h.along_last (stepsIn p) FING
  have hl := hp.len
  have e1 : gIxA (iLL (h.along FING (stepsIn p))) (.int (-1)) = some (iT (h.T FING (stepsIn p))) := by rw [e, iLL, List.map_append]; exact gIxA_last _ _
  simp [m_can_play, B_can_play, check_both_run hh hp, steps_in_run p (by omega), sets_along_run hh (stepsIn p) (by rw [stepsIn_len]; omega) (d := iL (stepsIn p)) rfl, e1]
  by_cases e : p = []
  · subst e; simp [Hand.T, FING]
  · simp [e]
end KF
set_option maxHeartbeats 1000000
/-! KM9: loops. -/
namespace KF
open L2
/-- fingers that play steps -/
def Hand.Row (h : Hand) : List Int → List Int → Prop
  | [], [f] => Fg f
  | s :: p, f :: g :: r => Fg f ∧ h.st f s g = true ∧ Hand.Row h p (g :: r)
  | _, _ => False
/-- a loop that ends at the first that is found -/
theorem loop_find {α : Type} {t : Tg} {body : En → M Out} (enc : α → D) (g : α → Option D) (J : En → Prop) {τ : Tau} : ∀ (l : List α) {ρ : En}, J ρ →
    (∀ a ∈ l, ∀ ρ, J ρ → ∃ ρ1, bindD t (enc a) ρ = some ρ1 ∧ ((g a = none ∧ ∃ ρ2, body ρ1 τ = .ok (.next ρ2) τ ∧ J ρ2) ∨ (∃ v, g a = some v ∧ body ρ1 τ = .ok (.ret v) τ))) →
    (l.findSome? g = none ∧ ∃ ρ2, loopF t body (l.map enc) ρ τ = .ok (.next ρ2) τ ∧ J ρ2) ∨ (∃ v, l.findSome? g = some v ∧ loopF t body (l.map enc) ρ τ = .ok (.ret v) τ)
  | [], ρ, h, _ => .inl ⟨rfl, ρ, rfl, h⟩
  | a :: l, ρ, h, st => by
    obtain ⟨ρ1, e1, h1⟩ := st a (List.mem_cons_self ..) ρ h
    rcases h1 with ⟨ga, ρ2, e2, h2⟩ | ⟨v, ga, e2⟩
    · rcases loop_find enc g J l h2 fun b hb => st b (List.mem_cons_of_mem _ hb) with ⟨ql, ρ', e3, h3⟩ | ⟨v, ql, e3⟩
      · exact .inl ⟨by rw [List.findSome?_cons, ga]; exact ql, ρ', by simp [e1, e2, e3], h3⟩
      · exact .inr ⟨v, by rw [List.findSome?_cons, ga]; exact ql, by simp [e1, e2, e3]⟩
    · exact .inr ⟨v, by rw [List.findSome?_cons, ga], by simp [e1, e2]⟩
/-! ### the sets before a finger -/
theorem back_loop {h : Hand} (hh : h.Ok) (τ : Tau) (x w : Sl) : ∀ (q fs : List Int) (acc : List (List Int)) (y : Sl), (∀ f ∈ fs, Fg f) → fs.length ≤ 5 → acc.length + q.length < 999999 →
    ∃ z, loopF (.name 4) (fApp 3 (fCallM m_after_step 3 (fCons (fVar 0) (fCons (f2 gIxA (fBor 3) (f1 gNeg (fC (.int 1)))) (fCons (f2 gSub (fC (.int 0)) (fBor 4)) fNil))))) (q.map .int) [.fz h.d, x, w, .ow (iLL (acc ++ [fs])), y] τ = .ok (.next [.fz h.d, x, w, .ow (iLL (acc ++ h.along fs (q.map fun s => -s))), z]) τ := by
  intro q
  induction q with
  | nil => intro fs acc y _ _ _; exact ⟨y, rfl⟩
  | cons s q ih =>
    intro fs acc y hf hl hn
    obtain ⟨z, e⟩ := ih (h.af fs (-s)) (acc ++ [fs]) (.fz (.int s)) (fun f m => Hand.af_fg m) (h.af_len fs (-s)) (by simp at hn ⊢; omega)
    refine ⟨z, ?_⟩
    have e1 := after_run hh hf (show fs.length ≤ 1000000 by omega) (-s) τ
    have e2 : gIxA (iLL (acc ++ [fs])) (.int (-1)) = some (iT fs) := by rw [iLL, List.map_append]; exact gIxA_last _ _
    have e3 : (List.map iT (acc ++ [fs])).length < SZ := by show _ < 1000000; simp at hn ⊢; omega
    have e4 : gSub (.int 0) (.int s) = some (.int (-s)) := by simp
    simp only [List.map_cons, loopF_cons, bindD_name, opt_some_r, bd_ok, fApp_r, fCallM_r, fCons_r, fVar_r, fBor_r, f2_r, f1_r, fC_r, gNeg_int, e4, fNil_r, List.set_cons_succ, List.set_cons_zero, List.getElem?_cons_zero, List.getElem?_cons_succ, List.length_cons, List.length_nil, e1, e2, e3, loopK_next, if_true, Option.bind_some, lstOf_ow]
    rw [Hand.along, show acc ++ fs :: h.along (h.af fs (-s)) (q.map fun s => -s) = (acc ++ [fs]) ++ h.along (h.af fs (-s)) (q.map fun s => -s) by simp, ← e]
    congr 5
    simp [iLL]
theorem sets_back_to_run {h : Hand} (hh : h.Ok) {p : List Int} (hl : p.length < 999999) {f : Int} (hf : Fg f) (τ : Tau) : m_sets_back_to [h.d, iT p, .int f] τ = .ok (iLL (h.along [f] (turnB p)).reverse) τ := by
  obtain ⟨z, e⟩ := back_loop hh τ (.fz (iT p)) (.fz (.int f)) p.reverse [f] [] .un (fun g hg => by rw [List.mem_singleton.mp hg]; exact hf) (by simp) (by simpa using hl)
  simp [m_sets_back_to, B_sets_back_to]
  rw [show D.lst [.tup [.int f]] = iLL ([] ++ [[f]]) from rfl, ← List.map_reverse, e]
  simp [turnB]
theorem back_get {h : Hand} {f : Int} {p : List Int} {i : Nat} (hi : i ≤ p.length) : (h.along [f] (turnB p)).reverse[i]? = some (h.T [f] (turnB (p.drop i))) := by
  have hl : (h.along [f] (turnB p)).length = p.length + 1 := by rw [Hand.along_len, turnB_length]
  rw [List.getElem?_reverse (by omega), hl, Hand.along_get h _ _ _ (by rw [turnB_length]; omega)]
  congr 2
  have e : turnB p = turnB (p.drop i) ++ turnB (p.take i) := by rw [← turnB_append, List.take_append_drop]
  rw [e, List.take_append_of_le_length (by rw [turnB_length, List.length_drop]; omega), List.take_of_length_le (by rw [turnB_length, List.length_drop]; omega)]
theorem mem_back {h : Hand} {f g : Int} {p : List Int} (hf : Fg f) : g ∈ h.T [f] (turnB p) ↔ Fg g ∧ h.Wk p g f := by
  rw [Hand.mem_T fun g hg => by rw [List.mem_singleton.mp hg]; exact hf]
  constructor
  · rintro ⟨k, hk, w⟩
    rw [List.mem_singleton.mp hk] at w
    have := Hand.wk_back hf w
    rw [turnB_turnB] at this
    exact ⟨w.fg hf, this⟩
  · rintro ⟨hg, w⟩
    exact ⟨f, List.mem_singleton.mpr rfl, Hand.wk_back hg w⟩
/-- the first fingers from g along the steps to f -/
def Hand.greedy (h : Hand) (f : Int) : List Int → Int → List Int
  | [], g => [g]
  | s :: p, g => g :: Hand.greedy h f p (((h.af [g] s).filter fun o => decide (o ∈ h.T [f] (turnB p))).headD 0)
theorem Hand.greedy_next {h : Hand} {f g s : Int} {p : List Int} (hf : Fg f) (w : h.Wk (s :: p) g f) : ∃ k r, ((h.af [g] s).filter fun o => decide (o ∈ h.T [f] (turnB p))) = k :: r ∧ Fg k ∧ h.st g s k = true ∧ h.Wk p k f := by
  obtain ⟨k, hk, e, w⟩ := w
  have m : k ∈ (h.af [g] s).filter fun o => decide (o ∈ h.T [f] (turnB p)) := List.mem_filter.mpr ⟨Hand.mem_af1.mpr ⟨hk, e⟩, by simpa using (mem_back hf).mpr ⟨hk, w⟩⟩
  cases q : (h.af [g] s).filter fun o => decide (o ∈ h.T [f] (turnB p)) with
  | nil => rw [q] at m; cases m
  | cons k' r =>
    have m' : k' ∈ (h.af [g] s).filter fun o => decide (o ∈ h.T [f] (turnB p)) := by rw [q]; exact List.mem_cons_self
    obtain ⟨m1, m2⟩ := List.mem_filter.mp m'
    obtain ⟨a1, a2⟩ := Hand.mem_af1.mp m1
    exact ⟨k', r, rfl, a1, a2, ((mem_back hf).mp (by simpa using m2)).2⟩
theorem Hand.greedy_head (h : Hand) (f : Int) (p : List Int) (g : Int) : ∃ r, h.greedy f p g = g :: r := by
  cases p with
  | nil => exact ⟨[], rfl⟩
  | cons s p => exact ⟨_, rfl⟩
theorem Hand.greedy_row {h : Hand} {f : Int} (hf : Fg f) : ∀ {p : List Int} {g : Int}, Fg g → h.Wk p g f → h.Row p (h.greedy f p g) ∧ ∃ r, h.greedy f p g = r ++ [f]
  | [], g, hg, w => by cases w; exact ⟨hg, [], rfl⟩
  | s :: p, g, hg, w => by
    obtain ⟨k, r, e, hk, st, w'⟩ := Hand.greedy_next hf w
    obtain ⟨ih, r', er⟩ := Hand.greedy_row hf hk w'
    obtain ⟨q, eq⟩ := h.greedy_head f p k
    rw [Hand.greedy, e]
    simp only [List.headD_cons]
    refine ⟨?_, g :: r', by rw [er]; rfl⟩
    rw [eq] at ih ⊢
    exact ⟨hg, st, ih⟩
theorem Hand.greedy_len (h : Hand) (f : Int) : ∀ (p : List Int) (g : Int), (h.greedy f p g).length = p.length + 1
  | [], _ => rfl
  | s :: p, g => by rw [Hand.greedy, List.length_cons, Hand.greedy_len h f p, List.length_cons]
theorem fs_map {α β γ : Type} (f : β → γ) (g : α → Option β) : ∀ l : List α, (l.findSome? fun m => (g m).map f) = (l.findSome? g).map f
  | [] => rfl
  | a :: l => by
    rw [List.findSome?_cons, List.findSome?_cons, fs_map f g l]
    cases g a <;> rfl
def Hand.closedOf (h : Hand) (p : List Int) : Option (List Int) := FING.findSome? fun f => if f ∈ h.T [f] (turnB p) then some (h.greedy f p f) else none
def optT : Option (List Int) → D
  | none => .non
  | some l => iT l
theorem optT_eq (o : Option (List Int)) : optT o = (o.map iT).getD .non := by cases o <;> rfl
theorem gSl_lastOne (l : List Int) (g : Int) : gSl (iT (l ++ [g])) (some (-1)) none = some (iT [g]) := by
  show some (D.tup (cutD _ _ _)) = _
  unfold cutD
  rw [HT.sIx_none]
  have : HT.sIx (List.map D.int (l ++ [g])).length 0 (some (-1)) = l.length := by
    unfold HT.sIx
    simp
    omega
  rw [this]
  simp
def enumI (p : List Int) (k : Nat) : List D := (p.zipIdx k).map fun x => .tup [.int (x.2 : Nat), .int x.1]
theorem enumI_cons (s : Int) (p : List Int) (k : Nat) : enumI (s :: p) k = .tup [.int (k : Nat), .int s] :: enumI p (k + 1) := rfl
theorem enumA_ints (p : List Int) : enumA [iT p] = some (enumI p 0) := by
  show some (List.map _ ((p.map D.int).zipIdx)) = _
  unfold enumI
  rw [List.zipIdx_map]
  simp [Function.comp_def]
theorem closed_loop {h : Hand} (hh : h.Ok) {f : Int} (hf : Fg f) {p : List Int} (hl : p.length < 1000) (x2 : Sl) (τ : Tau) : ∀ (q pre : List Int), p = pre ++ q → ∀ (acc : List Int) (g : Int) (y5 y6 y7 y8 : Sl), acc.length = pre.length → Fg g → h.Wk q g f →
    ∃ w5 w6 w7, loopF (.tup [(.name 5), (.name 6)]) (fSeq (fAsg (.name 7) (fLc (fItA (fCallM m_after_step 3 (fCons (fVar 0) (fCons (fSl (fBor 3) (fPart (f1 gNeg (fC (.int 1)))) fNoPart) (fCons (fVar 6) fNil))))) (.name 8) (fB (f2 gIn (fBor 8) (f2 gIxA (fBor 4) (f2 gAdd (fBor 5) (fC (.int 1)))))) (fVar 8) [8]))
      (fAsg (.name 3) (f2 gAdd (fBor 3) (fSz .tup (fCons (f2 gIxA (fBor 7) (fC (.int 0))) fNil))))) (enumI q pre.length) [.fz h.d, .fz (iT p), x2, .fz (iT (acc ++ [g])), .fz (iLL (h.along [f] (turnB p)).reverse), y5, y6, y7, y8] τ
      = .ok (.next [.fz h.d, .fz (iT p), x2, .fz (iT (acc ++ h.greedy f q g)), .fz (iLL (h.along [f] (turnB p)).reverse), w5, w6, w7, y8]) τ := by
  intro q
  induction q with
  | nil => intro pre _ acc g y5 y6 y7 y8 _ _ _; exact ⟨y5, y6, y7, rfl⟩
  | cons s q ih =>
    intro pre hp acc g y5 y6 y7 y8 ha hg w
    obtain ⟨k, r, e, hk, st, w'⟩ := Hand.greedy_next hf w
    obtain ⟨z5, z6, z7, ez⟩ := ih (pre ++ [s]) (by rw [hp]; simp) (acc ++ [g]) k (.fz (.int (pre.length : Nat))) (.fz (.int s)) (.fz (iL (k :: r))) y8 (by simp [ha]) hk w'
    refine ⟨z5, z6, z7, ?_⟩
    rw [enumI_cons, loopF_cons]
    simp only [bindD_tup, bindL_cons, bindL_nil, bindD_name, Option.bind_some, List.set_cons_succ, List.set_cons_zero, opt_some_r, bd_ok, fSeq_r, fAsg_r]
    have hpl : p.length = pre.length + (q.length + 1) := by rw [hp]; simp
    have hdr : p.drop (pre.length + 1) = q := by rw [hp, ← List.drop_drop]; simp
    have eb : gIxA (iLL (h.along [f] (turnB p)).reverse) (.int ((pre.length : Int) + 1)) = some (iT (h.T [f] (turnB q))) := by
      rw [show ((pre.length : Int) + 1) = ((pre.length + 1 : Nat) : Int) by omega, gIxA_lst, List.getElem?_map, back_get (by omega), hdr]
      rfl
    rw [fLc_map D.int (h.af [g] s) (fun o => decide (o ∈ h.T [f] (turnB q))) D.int ?h1 ?h2 ?h3]
    case h1 =>
      have e1 := after_run hh (fs := [g]) (fun z hz => by rw [List.mem_singleton.mp hz]; exact hg) (by simp) s τ
      simp only [fItA_r, fCallM_r, fCons_r, fVar_r, fSl_r, fBor_r, fPart_r, f1_r, fC_r, gNeg_int, fNoPart_r, fNil_r, opt_some_r, bd_ok, List.getElem?_cons_zero, List.getElem?_cons_succ, intD_int, gSl_lastOne, List.length_cons, List.length_nil, if_true, e1, items0_tup]
    case h2 => have := h.af_len [g] s; show _ ≤ 1000000; omega
    case h3 =>
      intro o ho
      refine ⟨_, bindD_name _ _ _, ?_, fun _ => by simp [wipeE]⟩
      simp only [wipeE, List.set_cons_succ, List.set_cons_zero, fB_r, f2_r, fBor_r, fC_r, opt_some_r, bd_ok, List.getElem?_cons_zero, List.getElem?_cons_succ, gAdd_int, eb, gIn_iT, toB_r]
    rw [e]
    have e4 : gAdd (iT (acc ++ [g])) (.tup [.int k]) = some (iT (acc ++ [g] ++ [k])) := by
      rw [gAdd_tup _ _ (by simp; omega)]
      simp [iT]
    simp only [bd_ok, opt_some_r, seqK_next, List.map_cons, List.set_cons_succ, List.set_cons_zero, fAsg_r, f2_r, fBor_r, fSz_r, fCons_r, fC_r, fNil_r, List.getElem?_cons_zero, List.getElem?_cons_succ, gIxA_L0, List.length_cons, List.length_nil, SZ_eq, bindD_name]
    rw [if_pos (by decide)]
    simp only [bd_ok, e4, opt_some_r, bindD_name, List.set_cons_succ, List.set_cons_zero, loopK_next]
    rw [List.length_append, List.length_singleton] at ez
    rw [Hand.greedy, e, List.headD_cons, show acc ++ g :: h.greedy f q k = acc ++ [g] ++ h.greedy f q k by simp, ← ez]
    rfl
theorem closed_of_run {h : Hand} (hh : h.Ok) {p : List Int} (hl : p.length < 1000) (τ : Tau) : m_closed_of [h.d, iT p] τ = .ok (optT (h.closedOf p)) τ := by
  simp [m_closed_of, B_closed_of, c_fing]
  have key := loop_find (t := .name 2) (τ := τ) (body := fSeq (fAsg (.tup [(.name 3), (.name 4)]) (fSz .tup (fCons (fSz .tup (fCons (fVar 2) fNil)) (fCons (fCallM m_sets_back_to 3 (fCons (fVar 0) (fCons (fVar 1) (fCons (fVar 2) fNil)))) fNil))))
    (fIf (fB (f2 gIn (fBor 2) (f2 gIxA (fBor 4) (fC (.int 0)))))
    (fSeq (fFor (fRng enumA (fCons (fVar 1) fNil)) (.tup [(.name 5), (.name 6)])
    (fSeq (fAsg (.name 7) (fLc (fItA (fCallM m_after_step 3 (fCons (fVar 0) (fCons (fSl (fBor 3) (fPart (f1 gNeg (fC (.int 1)))) fNoPart) (fCons (fVar 6) fNil))))) (.name 8) (fB (f2 gIn (fBor 8) (f2 gIxA (fBor 4) (f2 gAdd (fBor 5) (fC (.int 1)))))) (fVar 8) [8]))
    (fAsg (.name 3) (f2 gAdd (fBor 3) (fSz .tup (fCons (f2 gIxA (fBor 7) (fC (.int 0))) fNil))))))
    (fRet (fVar 3)))
    fNext)) D.int (fun f => if f ∈ h.T [f] (turnB p) then some (iT (h.greedy f p f)) else none) (fun ρ => ∃ a b c d e f g, ρ = [.fz h.d, .fz (iT p), a, b, c, d, e, f, g]) FING (ρ := [.fz h.d, .fz (iT p), .un, .un, .un, .un, .un, .un, .un]) ⟨_, _, _, _, _, _, _, rfl⟩ ?_
  · have hc : optT (h.closedOf p) = (FING.findSome? fun f => if f ∈ h.T [f] (turnB p) then some (iT (h.greedy f p f)) else none).getD .non := by
      rw [optT_eq, Hand.closedOf, ← fs_map]
      congr 2
      funext f
      split <;> rfl
    rcases key with ⟨e, ρ2, e2, x, y, z, u, v, w, t, rfl⟩ | ⟨v, e, e2⟩
    · rw [e2, hc, e]; rfl
    · rw [e2, hc, e]; rfl
  · rintro f hf _ ⟨a, b, c, d, e, g, k, rfl⟩
    have ff := fing_fg.mp hf
    have eb : gIxA (iLL (h.along [f] (turnB p)).reverse) (.int 0) = some (iT (h.T [f] (turnB p))) := by
      rw [show (0 : Int) = ((0 : Nat) : Int) from rfl, gIxA_lst, List.getElem?_map, back_get (Nat.zero_le _)]
      rfl
    refine ⟨_, bindD_name _ _ _, ?_⟩
    simp only [fSeq_r, fAsg_r, fSz_r, fCons_r, fVar_r, fNil_r, fCallM_r, List.set_cons_succ, List.set_cons_zero, List.getElem?_cons_zero, List.getElem?_cons_succ, opt_some_r, bd_ok, List.length_cons, List.length_nil, SZ_eq, Nat.reduceAdd, Nat.reduceLeDiff, if_true, sets_back_to_run hh (show p.length < 999999 by omega) ff, bindD_tup, bindL_cons, bindL_nil, bindD_name, Option.bind_some, seqK_next, fIf_r, fB_r, f2_r, fBor_r, fC_r, eb, gIn_iT, toB_r]
    by_cases m : f ∈ h.T [f] (turnB p)
    · right
      refine ⟨_, if_pos m, ?_⟩
      obtain ⟨_, w⟩ := (mem_back ff).mp m
      obtain ⟨y5, y6, y7, ec⟩ := closed_loop hh ff hl (.fz (.int f)) τ p [] rfl [] f d e g k rfl ff w
      simp only [decide_eq_true m, if_true, fFor_r, fRng_r, fCons_r, fVar_r, fNil_r, List.getElem?_cons_zero, List.getElem?_cons_succ, opt_some_r, bd_ok, enumA_ints]
      rw [List.nil_append] at ec
      rw [show (D.tup [.int f]) = iT [f] from rfl]
      rw [List.length_nil] at ec
      rw [ec]
      simp
    · left
      refine ⟨if_neg m, ?_⟩
      simp only [decide_eq_false m, Bool.false_eq_true, if_false]
      exact ⟨_, rfl, _, _, _, _, _, _, _, rfl⟩
theorem gMul_rep (p : List Int) (k : Nat) (h1 : p.length ≤ 1000) (h2 : k ≤ 1000) : gMul (iT p) (.int (k : Int)) = some (iT (rep p k)) := by
  have : mT (iT p) (.int (k : Int)) = some (iT (rep p k)) := by
    show (if _ then _ else _) = _
    rw [if_pos ⟨by simpa using h1, by omega, by omega⟩]
    congr 2
    unfold rep
    simp [List.map_flatten]
  simp [gMul, onIc, this]
theorem gSl_init (l : List Int) : gSl (iT l) none (some (-1)) = some (iT l.dropLast) := by
  show some (D.tup (cutD _ _ _)) = _
  unfold cutD
  rw [HT.sIx_none]
  have : HT.sIx (List.map D.int l).length (List.map D.int l).length (some (-1)) = l.length - 1 := by
    unfold HT.sIx
    simp
    omega
  rw [this]
  simp [List.dropLast_eq_take, List.map_take]
def Hand.loopO (h : Hand) (p : List Int) : Option (List Int) := FING.findSome? fun m => (h.closedOf (rep p m.toNat)).map List.dropLast
theorem loop_run {h : Hand} (hh : h.Ok) {p : List Int} (hp : Pat p) (τ : Tau) : m_loop [h.d, iT p] τ = .ok (optT (h.loopO p)) τ := by
  have h8 := hp.l8
  simp [m_loop, B_loop, check_pattern_run hh hp, rng_fing]
  have key := loop_find (t := .name 2) (τ := τ) (body := fSeq (fAsg (.name 3) (fCallM m_closed_of 2 (fCons (fVar 0) (fCons (f2 gMul (fBor 1) (fBor 2)) fNil))))
    (fIf (fB (f2 gIsNot (fBor 3) (fC .non)))
    (fRet (fSl (fBor 3) fNoPart (fPart (f1 gNeg (fC (.int 1))))))
    fNext)) D.int (fun m => (h.closedOf (rep p m.toNat)).map fun l => iT l.dropLast) (fun ρ => ∃ a b, ρ = [.fz h.d, .fz (iT p), a, b]) FING (ρ := [.fz h.d, .fz (iT p), .un, .un]) ⟨_, _, rfl⟩ ?_
  · have hc : optT (h.loopO p) = (FING.findSome? fun m => (h.closedOf (rep p m.toNat)).map fun l => iT l.dropLast).getD .non := by
      rw [optT_eq, Hand.loopO, ← fs_map]
      simp [Function.comp_def]
    rcases key with ⟨e, ρ2, e2, x, y, rfl⟩ | ⟨v, e, e2⟩
    · rw [e2, hc, e]; rfl
    · rw [e2, hc, e]; rfl
  · rintro m hm _ ⟨a, b, rfl⟩
    have fm := fing_fg.mp hm
    obtain ⟨k, rfl⟩ : ∃ k : Nat, m = k := ⟨m.toNat, by have := fm.1; omega⟩
    have hk : k ≤ 5 := by have := fm.2; omega
    have hle : (rep p k).length < 1000 := by
      rw [rep_length]
      have : k * p.length ≤ 5 * 8 := Nat.mul_le_mul hk h8
      omega
    refine ⟨_, bindD_name _ _ _, ?_⟩
    simp only [fSeq_r, fAsg_r, fCallM_r, fCons_r, fVar_r, fNil_r, f2_r, fBor_r, List.set_cons_succ, List.set_cons_zero, List.getElem?_cons_zero, List.getElem?_cons_succ, opt_some_r, bd_ok, List.length_cons, List.length_nil, Nat.reduceAdd, if_true, gMul_rep p k (by omega) (by omega), closed_of_run hh hle, bindD_name, seqK_next, fIf_r, fB_r, fC_r, gIsNot_non, toB_r, Int.toNat_natCast]
    cases hq : h.closedOf (rep p k) with
    | none => exact .inl ⟨rfl, _, rfl, _, _, rfl⟩
    | some l =>
      refine .inr ⟨_, rfl, ?_⟩
      simp only [optT, isNon, Bool.not_false, if_true, fRet_r, fSl_r, fBor_r, fPart_r, f1_r, fC_r, gNeg_int, fNoPart_r, opt_some_r, bd_ok, List.getElem?_cons_zero, List.getElem?_cons_succ, intD_int, gSl_init]
end KF
set_option maxHeartbeats 1000000
/-! KMA: drawn patterns and passages. -/
namespace KF
open L2
theorem fLc_r (fi : En → M (List D)) (t : Tg) (ft : Ft) (fe : Fe) (vs : List Nat) (ρ : En) (τ : Tau) : fLc fi t ft fe vs ρ τ = (fi ρ τ).bd fun ds u => if ds.length ≤ SZ then (lcF t ft fe (wipeE ρ vs) ds u).bd fun ys u => .ok (.lst ys) u else .stuck := by
  unfold fLc
  simp
/-- a comprehension of ints whose element draws -/
theorem lcF_sat {α : Type} {t : Tg} {fe : Fe} {ρ : En} (enc : α → D) (I : Tau → Prop) (P : Int → Prop) : ∀ (l : List α) (τ : Tau), I τ →
    (∀ a ∈ l, ∀ τ, I τ → ∃ ρ', bindD t (enc a) ρ = some ρ' ∧ (fe ρ' τ).sat fun d τ' => (∃ i, d = .int i ∧ P i) ∧ I τ') →
    (lcF t (fun _ => M.ret true) fe ρ (l.map enc) τ).sat fun ds τ' => (∃ is : List Int, ds = is.map .int ∧ is.length = l.length ∧ ∀ i ∈ is, P i) ∧ I τ'
  | [], τ, h, _ => ⟨⟨[], rfl, rfl, by simp⟩, h⟩
  | a :: l, τ, h, st => by
    obtain ⟨ρ', e1, s1⟩ := st a List.mem_cons_self τ h
    obtain ⟨d, τ1, e2, ⟨i, rfl, hi⟩, h1⟩ := sat_ex s1
    obtain ⟨ds, τ2, e3, ⟨is, rfl, hl, hP⟩, h2⟩ := sat_ex (lcF_sat enc I P l τ1 h1 fun b hb => st b (List.mem_cons_of_mem _ hb))
    rw [List.map_cons]
    unfold lcF
    simp [e1, e2, e3]
    exact ⟨⟨i :: is, rfl, by simp [hl], by simpa using ⟨hi, hP⟩⟩, h2⟩
theorem pattern_run {ns : List Int} (hn : ns.length ≤ 63) {n : Nat} {τ : Tau} (T : Town ns n τ) {most : Int} (h0 : 0 < most) (h8 : most ≤ 8) : (m__law_pattern [.scr ns, .obj n, .int most] τ).sat fun d τ' => (∃ p : List Int, Pat p ∧ (p.length : Int) ≤ most ∧ (∀ s ∈ p, -4 ≤ s ∧ s ≤ 4) ∧ d = iT p) ∧ Town ns n τ' := by
  simp [m__law_pattern, B__law_pattern, fLc_r]
  refine draw_bd hn T h0 (by omega) fun r τ1 r0 r1 T1 => ?_
  have er : (1 + r) = ((1 + r).toNat : Int) := by omega
  simp only [gAdd_int, opt_some_r, bd_ok]
  rw [er, rng1_run _ (by omega)]
  simp [upto_len]
  rw [if_pos (by omega)]
  refine sat_bd (sat_imp (lcF_sat D.int (fun τ => Town ns n τ) (fun i => -4 ≤ i ∧ i ≤ 4) (upto (1 + r).toNat) τ1 T1 ?_) ?_)
  · intro a _ τ T
    refine ⟨_, bindD_name _ _ _, ?_⟩
    simp [wipeE]
    refine draw_bd hn T (by decide) (by decide) fun q τ2 q0 q1 T2 => ?_
    simp
    exact ⟨by omega, T2⟩
  · rintro _ τ2 ⟨⟨is, rfl, hl, hP⟩, T2⟩
    rw [upto_len] at hl
    simp
    exact ⟨⟨is, ⟨by omega, by omega, fun s hs => by have := hP s hs; omega⟩, by omega, hP, rfl⟩, T2⟩
/-- the notes along steps -/
def notesOf : Int → List Int → List Int
  | a, [] => [a]
  | a, s :: p => a :: notesOf (a + s) p
theorem notesOf_len : ∀ (p : List Int) (a : Int), (notesOf a p).length = p.length + 1
  | [], _ => rfl
  | s :: p, a => by rw [notesOf, List.length_cons, notesOf_len p, List.length_cons]
theorem notesOf_head (a : Int) (p : List Int) : ∃ l, notesOf a p = a :: l := by
  cases p <;> exact ⟨_, rfl⟩
theorem stepsIn_notes : ∀ (p : List Int) (a : Int), stepsIn (notesOf a p) = p
  | [], a => rfl
  | s :: p, a => by
    obtain ⟨l, e⟩ := notesOf_head (a + s) p
    rw [notesOf, e, stepsIn_cons, ← e, stepsIn_notes p]
    congr 1
    omega
theorem notesOf_bd : ∀ (p : List Int) (a : Int) (k : Int), (∀ s ∈ p, -k ≤ s ∧ s ≤ k) → 0 ≤ k → ∀ n ∈ notesOf a p, a - k * p.length ≤ n ∧ n ≤ a + k * p.length
  | [], a, k, _, _, n, hn => by
    rw [notesOf, List.mem_singleton] at hn
    subst hn
    simp
  | s :: p, a, k, hs, hk, n, hn => by
    have h1 := hs s List.mem_cons_self
    rw [List.length_cons, Int.natCast_succ, Int.mul_add]
    have hp : 0 ≤ k * (p.length : Int) := Int.mul_nonneg hk (Int.natCast_nonneg _)
    rw [notesOf, List.mem_cons] at hn
    rcases hn with rfl | hn
    · omega
    · have := notesOf_bd p (a + s) k (fun s hs' => hs s (List.mem_cons_of_mem _ hs')) hk n hn
      omega
theorem notes_psg {p : List Int} (hl : p.length ≤ 11) (hs : ∀ s ∈ p, -4 ≤ s ∧ s ≤ 4) : Psg (notesOf 50 p) := by
  refine ⟨by rw [notesOf_len]; omega, fun n hn => ?_⟩
  have := notesOf_bd p 50 4 hs (by decide) n hn
  omega
theorem mem_rep {s : Int} {p : List Int} {k : Nat} (h : s ∈ rep p k) : s ∈ p := by
  unfold rep at h
  obtain ⟨l, hl, hs⟩ := List.mem_flatten.mp h
  rw [(List.mem_replicate.mp hl).2] at hs
  exact hs
end KF
set_option maxHeartbeats 1000000
/-! KMB: plain facts of patterns. -/
namespace KF
open L2
theorem Hand.turns_5 {h : Hand} {p : List Int} : h.turns p = 5 ↔ h.Pl (rep p 5) := by
  rw [← Hand.turns_iff (Nat.le_refl 5)]
  have := h.turns_le (p := p)
  omega
theorem Hand.min_turns {h : Hand} {p : List Int} {t : Nat} : min t 5 ≤ h.turns p ↔ h.Pl (rep p t) := by
  rw [Hand.turns_iff (by omega)]
  by_cases c : t ≤ 5
  · rw [Nat.min_eq_left c]
  · rw [Nat.min_eq_right (by omega)]
    exact ⟨fun x => Hand.endless x t, fun x => Hand.pl_le (by omega) x⟩
theorem turns_ext {h k : Hand} {p q : List Int} (e : ∀ n, n ≤ 5 → (h.Pl (rep p n) ↔ k.Pl (rep q n))) : h.turns p = k.turns q := by
  have a := h.turns_le (p := p)
  have b := k.turns_le (p := q)
  have x := (Hand.turns_iff (k := h.turns p) a).mp (Nat.le_refl _)
  have y := (Hand.turns_iff (k := k.turns q) b).mp (Nat.le_refl _)
  have x' := (Hand.turns_iff a).mpr ((e _ a).mp x)
  have y' := (Hand.turns_iff b).mpr ((e _ b).mpr y)
  omega
theorem Hand.turns_back {h : Hand} {p : List Int} : h.turns (turnB p) = h.turns p := turns_ext fun n _ => by rw [← turnB_rep, Hand.pl_back]
theorem rep_rot (s : Int) (q : List Int) : ∀ k, rep (s :: q) (k + 1) = s :: (rep (q ++ [s]) k ++ q)
  | 0 => by simp [rep]
  | k + 1 => by rw [rep_succ, rep_rot s q k, rep_succ]; simp
theorem rep_rot' (s : Int) (q : List Int) : ∀ k, rep (q ++ [s]) (k + 1) = q ++ (rep (s :: q) k ++ [s])
  | 0 => by simp [rep]
  | k + 1 => by rw [rep_succ, rep_rot' s q k, rep_succ]; simp
theorem Hand.endless_all {h : Hand} {p : List Int} : h.Pl (rep p 5) ↔ ∀ n, h.Pl (rep p n) := ⟨Hand.endless, fun x => x 5⟩
theorem Hand.rot_endless {h : Hand} {s : Int} {q : List Int} : h.Pl (rep (q ++ [s]) 5) ↔ h.Pl (rep (s :: q) 5) := by
  constructor
  · intro x
    have := Hand.endless x 6
    rw [rep_rot'] at this
    exact Hand.pl_left (Hand.pl_right this)
  · intro x
    have := Hand.endless x 6
    rw [rep_rot, show s :: (rep (q ++ [s]) 5 ++ q) = [s] ++ (rep (q ++ [s]) 5 ++ q) from rfl] at this
    exact Hand.pl_left (Hand.pl_right this)
theorem Hand.twice_endless {h : Hand} {p : List Int} : h.Pl (rep (rep p 2) 5) ↔ h.Pl (rep p 5) := by
  rw [rep_mul]
  exact ⟨fun x => Hand.pl_le (by decide) x, fun x => Hand.endless x _⟩
theorem Hand.twice_turns {h : Hand} {p : List Int} (n : h.turns p < 5) : h.turns (rep p 2) = h.turns p / 2 := by
  have a := h.turns_le (p := rep p 2)
  have x := (Hand.turns_iff (k := h.turns (rep p 2)) a).mp (Nat.le_refl _)
  rw [rep_mul] at x
  have x' := Hand.min_turns.mpr x
  have y := (Hand.turns_iff (k := h.turns p) (by omega)).mp (Nat.le_refl _)
  have y' : h.Pl (rep (rep p 2) (h.turns p / 2)) := by rw [rep_mul]; exact Hand.pl_le (by omega) y
  have y'' := (Hand.turns_iff (by omega)).mpr y'
  omega
theorem Hand.wk_still {h : Hand} (hh : h.Ok) {f : Int} (hf : Fg f) : ∀ {p : List Int}, (∀ s ∈ p, s = 0) → h.Wk p f f
  | [], _ => rfl
  | s :: p, hs => by
    have := hs s List.mem_cons_self
    subst this
    exact ⟨f, hf, by rw [Hand.st_self]; simpa using hh.hop0, Hand.wk_still hh hf fun s h => hs s (List.mem_cons_of_mem _ h)⟩
theorem Hand.still {h : Hand} (hh : h.Ok) {p : List Int} (hs : ∀ s ∈ p, s = 0) : h.turns p = 5 := Hand.turns_5.mpr ⟨1, 1, by decide, Hand.wk_still hh (by decide) fun s m => hs s (mem_rep m)⟩
theorem Hand.closedOf_isSome {h : Hand} {p : List Int} : (h.closedOf p).isSome = true ↔ ∃ f, Fg f ∧ h.Wk p f f := by
  unfold Hand.closedOf
  rw [List.findSome?_isSome_iff]
  constructor
  · rintro ⟨f, hf, e⟩
    split at e
    · rename_i m
      exact ⟨f, fing_fg.mp hf, ((mem_back (fing_fg.mp hf)).mp m).2⟩
    · cases e
  · rintro ⟨f, hf, w⟩
    exact ⟨f, fing_fg.mpr hf, by rw [if_pos ((mem_back hf).mpr ⟨hf, w⟩)]; rfl⟩
theorem Hand.loopO_isSome {h : Hand} {p : List Int} : (h.loopO p).isSome = true ↔ h.turns p = 5 := by
  rw [Hand.turns_5, Hand.endless_iff]
  unfold Hand.loopO
  rw [List.findSome?_isSome_iff]
  simp only [Option.isSome_map, Hand.closedOf_isSome]
  constructor
  · rintro ⟨m, hm, f, hf, w⟩
    have := fing_fg.mp hm
    exact ⟨m.toNat, f, by have := this.1; omega, by have := this.2; omega, hf, w⟩
  · rintro ⟨m, f, h1, h5, hf, w⟩
    exact ⟨(m : Int), fing_fg.mpr ⟨by omega, by omega⟩, f, hf, by rw [Int.toNat_natCast]; exact w⟩
theorem isNon_optT (o : Option (List Int)) : isNon (optT o) = !o.isSome := by cases o <;> rfl
theorem Pat.turnB {p : List Int} (hp : Pat p) : Pat (turnB p) := ⟨by rw [turnB_length]; exact hp.l1, by rw [turnB_length]; exact hp.l8, fun s hs => by
  unfold KF.turnB at hs
  obtain ⟨x, hx, rfl⟩ := List.mem_map.mp hs
  have := hp.st x (List.mem_reverse.mp hx)
  omega⟩
theorem Pat.rot {s : Int} {q : List Int} (hp : Pat (s :: q)) : Pat (q ++ [s]) := ⟨by simp, by have := hp.l8; simp at this ⊢; omega, fun x hx => hp.st x (by
  rcases List.mem_append.mp hx with h | h
  · exact List.mem_cons_of_mem _ h
  · rw [List.mem_singleton.mp h]; exact List.mem_cons_self)⟩
theorem Pat.rep {p : List Int} (hp : Pat p) {k : Nat} (h1 : 1 ≤ k) (h8 : k * p.length ≤ 8) : Pat (rep p k) := ⟨by
  rw [rep_length]
  have := hp.l1
  exact Nat.le_trans this (by have := Nat.mul_le_mul_right p.length h1; omega), by rw [rep_length]; exact h8, fun s hs => hp.st s (mem_rep hs)⟩
end KF
set_option maxHeartbeats 1000000
/-! KMC: rows of fingers that play steps. -/
namespace KF
open L2
theorem Hand.Row.cons_iff {h : Hand} {s f g : Int} {p r : List Int} : h.Row (s :: p) (f :: g :: r) ↔ Fg f ∧ h.st f s g = true ∧ h.Row p (g :: r) := Iff.rfl
theorem Hand.Row.len {h : Hand} : ∀ {p r : List Int}, h.Row p r → r.length = p.length + 1
  | [], [_], _ => rfl
  | _ :: p, _ :: g :: r, ⟨_, _, x⟩ => by have := Hand.Row.len x; simp at this ⊢; omega
  | [], [], x => x.elim
  | [], _ :: _ :: _, x => x.elim
  | _ :: _, [], x => x.elim
  | _ :: _, [_], x => x.elim
theorem Hand.Row.fg {h : Hand} : ∀ {p r : List Int}, h.Row p r → ∀ f ∈ r, Fg f
  | [], [a], x, f, m => by rw [List.mem_singleton.mp m]; exact x
  | _ :: p, a :: g :: r, ⟨ha, _, x⟩, f, m => by
    rcases List.mem_cons.mp m with rfl | m
    · exact ha
    · exact Hand.Row.fg x f m
  | [], [], x, _, _ => x.elim
  | [], _ :: _ :: _, x, _, _ => x.elim
  | _ :: _, [], x, _, _ => x.elim
  | _ :: _, [_], x, _, _ => x.elim
/-- all steps are played -/
def Hand.play (h : Hand) (p r : List Int) : Bool := (r.zip (p.zip r.tail)).all fun x => h.st x.1 x.2.1 x.2.2
theorem Hand.row_iff {h : Hand} : ∀ {p r : List Int}, h.Row p r ↔ r.length = p.length + 1 ∧ (∀ f ∈ r, Fg f) ∧ h.play p r = true
  | [], [a] => by simp [Hand.Row, Hand.play]
  | s :: p, a :: g :: r => by
    rw [Hand.Row.cons_iff, Hand.row_iff]
    unfold Hand.play
    simp only [List.tail_cons, List.zip_cons_cons, List.all_cons, Bool.and_eq_true, List.length_cons, List.mem_cons, forall_eq_or_imp]
    constructor
    · rintro ⟨h1, h2, h3, ⟨h4, h5⟩, h6⟩; exact ⟨by omega, ⟨h1, h4, h5⟩, h2, h6⟩
    · rintro ⟨h1, ⟨h2, h3, h4⟩, h5, h6⟩; exact ⟨h2, h5, by omega, ⟨h3, h4⟩, h6⟩
  | [], [] => by simp [Hand.Row]
  | [], _ :: _ :: _ => by simp [Hand.Row]
  | _ :: _, [] => by simp [Hand.Row]
  | _ :: _, [_] => by simp [Hand.Row]
theorem Hand.Row.app {h : Hand} {q t : List Int} {f : Int} (y : h.Row q (f :: t)) : ∀ {p r : List Int}, h.Row p (r ++ [f]) → h.Row (p ++ q) (r ++ f :: t)
  | [], [], x => y
  | [], [_], x => x.elim
  | [], _ :: _ :: _, x => x.elim
  | _ :: _, [], x => x.elim
  | s :: p, [a], ⟨h1, h2, x⟩ => ⟨h1, h2, Hand.Row.app y (p := p) (r := []) x⟩
  | s :: p, a :: b :: r, ⟨h1, h2, x⟩ => ⟨h1, h2, Hand.Row.app y (p := p) (r := b :: r) x⟩
theorem Hand.Row.take {h : Hand} : ∀ {p r : List Int} (n : Nat), h.Row p r → h.Row (p.take n) (r.take (n + 1))
  | [], [a], n, x => by simpa using x
  | s :: p, a :: g :: r, 0, ⟨h1, _, _⟩ => h1
  | s :: p, a :: g :: r, n + 1, ⟨h1, h2, x⟩ => by
    have := Hand.Row.take n x
    rw [List.take_succ_cons] at this ⊢
    rw [List.take_succ_cons, List.take_succ_cons]
    exact ⟨h1, h2, this⟩
  | [], [], _, x => x.elim
  | [], _ :: _ :: _, _, x => x.elim
  | _ :: _, [], _, x => x.elim
  | _ :: _, [_], _, x => x.elim
theorem Hand.Row.drop {h : Hand} : ∀ {p r : List Int} (n : Nat), n ≤ p.length → h.Row p r → h.Row (p.drop n) (r.drop n)
  | _, _, 0, _, x => x
  | [], _, n + 1, hn, _ => by simp at hn
  | s :: p, a :: g :: r, n + 1, hn, ⟨_, _, x⟩ => Hand.Row.drop n (by simpa using hn) x
  | _ :: _, [], _ + 1, _, x => x.elim
  | _ :: _, [_], _ + 1, _, x => x.elim
theorem Hand.Row.back {h : Hand} : ∀ {p r : List Int}, h.Row p r → h.Row (turnB p) r.reverse
  | [], [a], x => x
  | s :: p, a :: g :: r, ⟨h1, h2, x⟩ => by
    have ih := Hand.Row.back x
    rw [turnB_cons, List.reverse_cons, List.reverse_cons]
    rw [List.reverse_cons] at ih
    have hg : Fg g := x.fg g List.mem_cons_self
    have y : h.Row [-s] (g :: [a]) := ⟨hg, by rw [← Hand.st_back]; exact h2, h1⟩
    have := Hand.Row.app y ih
    simpa using this
  | [], [], x => x.elim
  | [], _ :: _ :: _, x => x.elim
  | _ :: _, [], x => x.elim
  | _ :: _, [_], x => x.elim
theorem Hand.Row.mono {h w : Hand} (m : ∀ f s g, Fg f → Fg g → h.st f s g = true → w.st f s g = true) : ∀ {p r : List Int}, h.Row p r → w.Row p r
  | [], [a], x => x
  | s :: p, a :: g :: r, ⟨h1, h2, x⟩ => ⟨h1, m _ _ _ h1 (x.fg g List.mem_cons_self) h2, Hand.Row.mono m x⟩
  | [], [], x => x.elim
  | [], _ :: _ :: _, x => x.elim
  | _ :: _, [], x => x.elim
  | _ :: _, [_], x => x.elim
theorem Hand.Row.wk {h : Hand} : ∀ {p : List Int} {r : List Int} {f : Int}, h.Row p (f :: r) → ∃ l g, f :: r = l ++ [g] ∧ Fg g ∧ h.Wk p f g
  | [], [], f, x => ⟨[], f, rfl, x, rfl⟩
  | s :: p, g :: r, f, ⟨h1, h2, x⟩ => by
    obtain ⟨l, k, e, hk, w⟩ := Hand.Row.wk x
    exact ⟨f :: l, k, by rw [e]; rfl, hk, g, x.fg g List.mem_cons_self, h2, w⟩
  | [], _ :: _, _, x => x.elim
  | _ :: _, [], _, x => x.elim
theorem Hand.wk_row {h : Hand} : ∀ {p : List Int} {f g : Int}, Fg f → h.Wk p f g → ∃ r, h.Row p (f :: r) ∧ ∃ l, f :: r = l ++ [g]
  | [], f, g, hf, w => by cases w; exact ⟨[], hf, [], rfl⟩
  | s :: p, f, g, hf, ⟨k, hk, e, w⟩ => by
    obtain ⟨r, x, l, el⟩ := Hand.wk_row hk w
    exact ⟨k :: r, ⟨hf, e, x⟩, f :: l, by rw [el]; rfl⟩
theorem Hand.pl_iff_row {h : Hand} {p : List Int} : h.Pl p ↔ ∃ r, h.Row p r := by
  constructor
  · rintro ⟨f, g, hf, w⟩
    obtain ⟨r, x, _⟩ := Hand.wk_row hf w
    exact ⟨_, x⟩
  · rintro ⟨r, x⟩
    cases r with
    | nil => cases p <;> exact x.elim
    | cons f r =>
      obtain ⟨l, g, _, _, w⟩ := x.wk
      exact ⟨f, g, x.fg f List.mem_cons_self, w⟩
/-- again and again -/
theorem Hand.Row.rep {h : Hand} {p r : List Int} {f : Int} (x : h.Row p (f :: r ++ [f])) : ∀ k, h.Row (rep p k) (KF.rep (f :: r) k ++ [f])
  | 0 => x.fg f (by simp)
  | k + 1 => by
    have ih := Hand.Row.rep x k
    rw [rep_succ, rep_succ]
    cases k with
    | zero => simpa [KF.rep] using x
    | succ k =>
      rw [show KF.rep (f :: r) (k + 1) ++ [f] = f :: (r ++ KF.rep (f :: r) k ++ [f]) by rw [rep_succ]; simp] at ih
      have := Hand.Row.app ih x
      rw [show f :: r ++ KF.rep (f :: r) (k + 1) ++ [f] = f :: r ++ f :: (r ++ KF.rep (f :: r) k ++ [f]) by rw [rep_succ]; simp]
      exact this
/-! ### runs -/
def t3 (x : Int × Int × Int) : D := .tup [.int x.1, .int x.2.1, .int x.2.2]
theorem zip3_ints {d e f : D} {a b c : List Int} (h1 : items0 d = some (a.map .int)) (h2 : items0 e = some (b.map .int)) (h3 : items0 f = some (c.map .int)) : zip3 [d, e, f] = some ((a.zip (b.zip c)).map t3) := by
  show ((items0 d).bind _) = _
  rw [h1, h2, h3]
  simp only [Option.bind_some, Option.map_some]
  congr 1
  rw [List.zip_map, List.zip_map]
  simp [Function.comp_def, t3]
theorem is_played_run {h : Hand} (hh : h.Ok) {p r : List Int} (hf : ∀ f ∈ r, Fg f) (hr : r.length ≤ 1000) {d : D} (hd : items0 d = some (p.map .int)) (τ : Tau) : m_is_played [h.d, d, iT r] τ = .ok (.bl (h.play p r)) τ := by
  have e1 := gSl_tail r
  have e2 : zip3 [iT r, d, iT r.tail] = some ((r.zip (p.zip r.tail)).map t3) := zip3_ints rfl hd rfl
  have hl : (r.zip (p.zip r.tail)).length ≤ 1000 := by rw [List.length_zip]; omega
  have e3 : gLZ [iT r, d, iT r.tail] = some (.lst ((r.zip (p.zip r.tail)).map t3)) := by
    unfold gLZ
    rw [e2]
    show (if _ then _ else _) = _
    rw [if_pos (by rw [List.length_map]; show _ ≤ 1000000; omega)]
  simp [m_is_played, B_is_played, e1, e3]
  rw [fLc_all t3 (r.zip (p.zip r.tail)) (fun x => .bl (h.st x.1 x.2.1 x.2.2)) (by simp) (by show _ ≤ 1000000; omega) ?_]
  · simp [Hand.play]
  · intro x hx
    have m1 : x.1 ∈ r := (List.of_mem_zip hx).1
    have m2 : x.2.2 ∈ r := List.mem_of_mem_tail (List.of_mem_zip (List.of_mem_zip hx).2).2
    refine ⟨_, by simp [t3, wipeE]; rfl, ?_⟩
    simp [does_step_run hh (hf _ m1) (hf _ m2)]
def fgB (r : List Int) : Bool := r.all fun f => decide (1 ≤ f) && decide (f ≤ 5)
theorem fgB_iff {r : List Int} : fgB r = true ↔ ∀ f ∈ r, Fg f := by
  unfold fgB Fg
  simp
theorem between_lc {r : List Int} (hl : r.length ≤ 1000) {ρ : En} {i j : Nat} (hi : ρ[i]? = some (.fz (iT r))) (hj : j < ρ.length) (τ : Tau) : fLc (fItA (fVar i)) (.name j) (fun _ => M.ret true) (fCallM m_is_between 3 (fCons (fVar j) (fCons (fC (.int 1)) (fCons (fC (.int 5)) fNil)))) [j] ρ τ = .ok (.lst (r.map fun f => .bl (decide (1 ≤ f) && decide (f ≤ 5)))) τ := by
  rw [fLc_all D.int r (fun f => .bl (decide (1 ≤ f) && decide (f ≤ 5))) (by simp [hi]) (by show _ ≤ 1000000; omega) fun s _ => ⟨_, bindD_name _ _ _, by simp [wipeE, hj, is_between_run]⟩]
theorem is_fingering_of_run {h : Hand} (hh : h.Ok) {ps r : List Int} (hp : ps.length ≤ 1000) (hr : r.length ≤ 1000) (τ : Tau) : m_is_fingering_of [h.d, iT ps, iT r] τ = .ok (.bl (decide (r.length = ps.length) && (fgB r && h.play (stepsIn ps) r))) τ := by
  simp [m_is_fingering_of, B_is_fingering_of, isiD, tyN, isiB]
  have e0 : ∀ (ρ : En), ρ[2]? = some (.fz (iT r)) → 3 < ρ.length → fLc (fItA (fVar 2)) (.name 3) (fun _ => M.ret true) (fCallM m_is_between 3 (fCons (fVar 3) (fCons (fC (.int 1)) (fCons (fC (.int 5)) fNil)))) [3] ρ τ = .ok (.lst (r.map fun f => .bl (decide (1 ≤ f) && decide (f ≤ 5)))) τ := fun ρ hi hj => between_lc hr hi hj τ
  rw [e0 _ rfl (by simp)]
  have hi : ((r.length : Int) = (ps.length : Int)) ↔ r.length = ps.length := by omega
  by_cases c : r.length = ps.length
  · by_cases f : fgB r = true
    · have g := is_played_run hh (fgB_iff.mp f) hr (d := iL (stepsIn ps)) (p := stepsIn ps) rfl τ
      have f' : (r.all fun f => decide (1 ≤ f) && decide (f ≤ 5)) = true := f
      simp [c, f', f, steps_in_run ps (by omega), g]
    · have f' : (r.all fun f => decide (1 ≤ f) && decide (f ≤ 5)) = false := by simpa [fgB] using f
      have f2 : fgB r = false := f'
      simp only [bd_ok, gAll_map, opt_some_r, f', truD_bl, Bool.not_false, if_true, f2, Bool.false_and, Bool.and_false, c, decide_true, Bool.not_true, Bool.false_eq_true, if_false, outD_ret]
  · simp [c, hi]
theorem is_fingering_run {h : Hand} (hh : h.Ok) {ps r : List Int} (hp : Psg ps) (hr : r.length ≤ 1000) (τ : Tau) : m_is_fingering [h.d, iT ps, iT r] τ = .ok (.bl (decide (r.length = ps.length) && (fgB r && h.play (stepsIn ps) r))) τ := by
  have := hp.len
  simp [m_is_fingering, B_is_fingering, check_both_run hh hp, is_fingering_of_run hh (show ps.length ≤ 1000 by omega) hr]
end KF
set_option maxHeartbeats 1000000
/-! KMD: loops, plain. -/
namespace KF
open L2
/-- a loop with an invariant; a turn may end by continue -/
theorem loop_satC0 {α β : Type} {t : Tg} {body : En → M Out} (enc : α → D) (I : En → Tau → Prop) {k : Out → Tau → Res β} {Q : β → Tau → Prop} : ∀ (l : List α) {ρ : En} {τ : Tau}, I ρ τ →
    (∀ a ∈ l, ∀ ρ τ, I ρ τ → ∃ ρ1, bindD t (enc a) ρ = some ρ1 ∧ (body ρ1 τ).sat fun o τ' => ∃ ρ2, (o = .next ρ2 ∨ o = .cont ρ2) ∧ I ρ2 τ') →
    (∀ ρ' τ', I ρ' τ' → (k (.next ρ') τ').sat Q) → ((loopF t body (l.map enc) ρ τ).bd k).sat Q
  | [], ρ, τ, h0, _, h1 => h1 ρ τ h0
  | a :: l, ρ, τ, h0, st, h1 => by
    obtain ⟨ρ1, e1, s⟩ := st a List.mem_cons_self ρ τ h0
    obtain ⟨o, τ2, e2, ρ2, ho, h2⟩ := sat_ex s
    have ih := loop_satC0 enc I (k := k) (Q := Q) l h2 (fun b hb => st b (List.mem_cons_of_mem _ hb)) h1
    rw [List.map_cons, loopF_cons, e1]
    simp only [opt_some_r, bd_ok, e2]
    rcases ho with rfl | rfl
    · rw [loopK_next]; exact ih
    · rw [loopK_cont]; exact ih
def Hand.isLoopB (h : Hand) (p r : List Int) : Bool := !decide (r = []) && (decide (r.length % p.length = 0) && (fgB r && h.play (rep p (r.length / p.length)) (r ++ r.take 1)))
theorem gSl_take (l : List Int) (n : Nat) : gSl (iT l) none (some (n : Int)) = some (iT (l.take n)) := by rw [gSl_to, ← List.map_take]
theorem gSl_one (l : List Int) : gSl (iT l) none (some 1) = some (iT (l.take 1)) := gSl_take l 1
theorem gAdd_iT (a b : List Int) (h : a.length + b.length ≤ 1000000) : gAdd (iT a) (iT b) = some (iT (a ++ b)) := by rw [gAdd_tup _ _ (by simpa using h), ← List.map_append]
theorem is_loop_run {h : Hand} (hh : h.Ok) {p r : List Int} (hp : Pat p) (hr : r.length ≤ 900) (τ : Tau) : m_is_loop [h.d, iT p, iT r] τ = .ok (.bl (h.isLoopB p r)) τ := by
  have l1 := hp.l1
  have l8 := hp.l8
  have h0 : (0 : Int) < p.length := by omega
  have e0 : ∀ (ρ : En), ρ[2]? = some (.fz (iT r)) → 3 < ρ.length → fLc (fItA (fVar 2)) (.name 3) (fun _ => M.ret true) (fCallM m_is_between 3 (fCons (fVar 3) (fCons (fC (.int 1)) (fCons (fC (.int 5)) fNil)))) [3] ρ τ = .ok (.lst (r.map fun f => .bl (decide (1 ≤ f) && decide (f ≤ 5)))) τ := fun ρ hi hj => between_lc (by omega) hi hj τ
  have em : gMod (.int (r.length : Int)) (.int (p.length : Int)) = some (.int ((r.length % p.length : Nat) : Int)) := by rw [gMod_int _ _ h0]; rfl
  have ed : gDiv (.int (r.length : Int)) (.int (p.length : Int)) = some (.int ((r.length / p.length : Nat) : Int)) := by rw [gDiv_int _ _ h0 (by omega)]; rfl
  have hd : r.length / p.length ≤ 900 := Nat.le_trans (Nat.div_le_self _ _) hr
  have eg := gMul_rep p (r.length / p.length) (by omega) (by omega)
  have hz : (((r.length % p.length : Nat) : Int) = 0) ↔ r.length % p.length = 0 := by omega
  simp [m_is_loop, B_is_loop, check_pattern_run hh hp, isiD, tyN, isiB]
  unfold Hand.isLoopB
  by_cases c1 : r = []
  · subst c1; simp
  · by_cases c2 : r.length % p.length = 0
    · simp [c1, em, c2]
      rw [e0 _ rfl (by simp)]
      by_cases f : fgB r = true
      · have f' : (r.all fun f => decide (1 ≤ f) && decide (f ≤ 5)) = true := f
        have hf2 : ∀ f ∈ r ++ r.take 1, Fg f := fun g hg => by
          rcases List.mem_append.mp hg with z | z
          · exact fgB_iff.mp f g z
          · exact fgB_iff.mp f g (List.mem_of_mem_take z)
        have g := is_played_run hh (p := rep p (r.length / p.length)) (r := r ++ r.take 1) hf2 (by simp; omega) (d := iT (rep p (r.length / p.length))) rfl τ
        have ea := gAdd_iT r (r.take 1) (by simp; omega)
        simp only [bd_ok, gAll_map, opt_some_r, f', truD_bl, Bool.not_true, Bool.false_eq_true, if_false, fNext_r, seqK_next, fRet_r, fCallM_r, fCons_r, fVar_r, f2_r, fBor_r, fN_r, fNil_r, fSl_r, fNoPart_r, fPart_r, fC_r, intD_int, List.getElem?_cons_zero, List.getElem?_cons_succ, gLen_tup, List.length_map, ed, eg, gSl_one, ea, List.length_cons, List.length_nil, if_true, g, outD_ret, f]
        simp
      · have f' : (r.all fun f => decide (1 ≤ f) && decide (f ≤ 5)) = false := by simpa [fgB] using f
        have f2 : fgB r = false := f'
        simp only [bd_ok, gAll_map, opt_some_r, f', truD_bl, Bool.not_false, if_true, f2, Bool.false_and, Bool.and_false, outD_ret, fRet_r, fC_r, seqK_ret]
    · simp [c1, em, c2]
      intro z
      exact absurd (by exact_mod_cast z) c2
/-- what a told loop is -/
structure LoopF (h : Hand) (p r : List Int) : Prop where
  ex : ∃ m f r', 1 ≤ m ∧ m ≤ 5 ∧ r = f :: r' ∧ r.length = m * p.length ∧ h.Row (rep p m) (f :: r' ++ [f]) ∧ ∀ k, 1 ≤ k → k < m → ¬ ∃ g, Fg g ∧ h.Wk (rep p k) g g
theorem Hand.closedOf_some {h : Hand} {p r : List Int} (e : h.closedOf p = some r) : ∃ f, Fg f ∧ h.Wk p f f ∧ r = h.greedy f p f ∧ ∀ g, Fg g → g < f → ¬ h.Wk p g g := by
  unfold Hand.closedOf at e
  have key : ∀ l : List Int, l.Pairwise (· < ·) → (∀ f ∈ l, Fg f) → (l.findSome? fun f => if f ∈ h.T [f] (turnB p) then some (h.greedy f p f) else none) = some r → ∃ f ∈ l, h.Wk p f f ∧ r = h.greedy f p f ∧ ∀ g ∈ l, g < f → ¬ h.Wk p g g := by
    intro l
    induction l with
    | nil => intro _ _ e; cases e
    | cons a l ih =>
      intro pw fg e
      rw [List.pairwise_cons] at pw
      have fa := fg a List.mem_cons_self
      rw [List.findSome?_cons] at e
      by_cases m : a ∈ h.T [a] (turnB p)
      · rw [if_pos m] at e
        cases e
        refine ⟨a, List.mem_cons_self, ((mem_back fa).mp m).2, rfl, fun g hg hlt => ?_⟩
        rcases List.mem_cons.mp hg with z | z
        · omega
        · have := pw.1 g z; omega
      · rw [if_neg m] at e
        obtain ⟨f, hf, w, er, mn⟩ := ih pw.2 (fun x hx => fg x (List.mem_cons_of_mem _ hx)) e
        refine ⟨f, List.mem_cons_of_mem _ hf, w, er, fun g hg hlt => ?_⟩
        rcases List.mem_cons.mp hg with z | z
        · subst z; exact fun w => m ((mem_back fa).mpr ⟨fa, w⟩)
        · exact mn g z hlt
  obtain ⟨f, hf, w, er, mn⟩ := key FING fing_pw fing_all e
  exact ⟨f, fing_fg.mp hf, w, er, fun g hg => mn g (fing_fg.mpr hg)⟩
theorem Hand.loopO_some {h : Hand} {p r : List Int} (l1 : 1 ≤ p.length) (e : h.loopO p = some r) : LoopF h p r := by
  unfold Hand.loopO at e
  have key : ∀ l : List Int, l.Pairwise (· < ·) → (∀ f ∈ l, Fg f) → (l.findSome? fun m => (h.closedOf (rep p m.toNat)).map List.dropLast) = some r → ∃ m ∈ l, (h.closedOf (rep p m.toNat)).map List.dropLast = some r ∧ ∀ k ∈ l, k < m → h.closedOf (rep p k.toNat) = none := by
    intro l
    induction l with
    | nil => intro _ _ e; cases e
    | cons a l ih =>
      intro pw fg e
      rw [List.pairwise_cons] at pw
      rw [List.findSome?_cons] at e
      cases q : h.closedOf (rep p a.toNat) with
      | some y =>
        rw [q] at e
        refine ⟨a, List.mem_cons_self, by rw [q]; exact e, fun k hk hlt => ?_⟩
        rcases List.mem_cons.mp hk with z | z
        · omega
        · have := pw.1 k z; omega
      | none =>
        rw [q] at e
        obtain ⟨m, hm, e1, e2⟩ := ih pw.2 (fun x hx => fg x (List.mem_cons_of_mem _ hx)) e
        refine ⟨m, List.mem_cons_of_mem _ hm, e1, fun k hk hlt => ?_⟩
        rcases List.mem_cons.mp hk with z | z
        · subst z; exact q
        · exact e2 k z hlt
  obtain ⟨m, hm, e1, e2⟩ := key FING fing_pw fing_all e
  have fm := fing_fg.mp hm
  have m1 := fm.1
  have m5 := fm.2
  obtain ⟨y, q, rfl⟩ := Option.map_eq_some_iff.mp e1
  obtain ⟨f, hf, w, rfl, _⟩ := Hand.closedOf_some q
  obtain ⟨x, r0, er⟩ := Hand.greedy_row hf hf w
  obtain ⟨q0, eq⟩ := h.greedy_head f (rep p m.toNat) f
  have hl := h.greedy_len f (rep p m.toNat) f
  rw [rep_length] at hl
  rw [er, List.dropLast_concat]
  have hm1 : 1 ≤ m.toNat := by omega
  have hpos : 1 ≤ m.toNat * p.length := Nat.le_trans l1 (by have := Nat.mul_le_mul_right p.length hm1; omega)
  rw [er, List.length_append, List.length_singleton] at hl
  cases r0 with
  | nil => simp at hl; omega
  | cons a r0 =>
    have ea : a = f := by rw [er] at eq; simp at eq; exact eq.1
    subst ea
    refine ⟨m.toNat, a, r0, hm1, by omega, rfl, by omega, by rw [er] at x; exact x, fun k k1 k2 ⟨g, hg, w⟩ => ?_⟩
    have := e2 (k : Int) (fing_fg.mpr ⟨by omega, by omega⟩) (by omega)
    rw [Int.toNat_natCast] at this
    have := Hand.closedOf_isSome.mpr ⟨g, hg, w⟩
    rw [‹h.closedOf (rep p k) = none›] at this
    cases this
/-- closed walks -/
def Hand.Cl (h : Hand) (p : List Int) : Prop := ∃ f, Fg f ∧ h.Wk p f f
theorem LoopF.min {h : Hand} {p r : List Int} (L : LoopF h p r) {k : Nat} (k1 : 1 ≤ k) (c : h.Cl (rep p k)) : r.length ≤ k * p.length := by
  obtain ⟨m, f, r', m1, m5, rfl, hl, x, mn⟩ := L.ex
  rw [hl]
  refine Nat.mul_le_mul_right _ (Nat.le_of_not_lt fun z => mn k k1 z c)
theorem LoopF.cl {h : Hand} {p r : List Int} (L : LoopF h p r) : ∃ m, 1 ≤ m ∧ m ≤ 5 ∧ r.length = m * p.length ∧ h.Cl (rep p m) := by
  obtain ⟨m, f, r', m1, m5, rfl, hl, x, mn⟩ := L.ex
  refine ⟨m, m1, m5, hl, f, x.fg f (by simp), ?_⟩
  obtain ⟨l, g, e, hg, w⟩ := Hand.Row.wk (show h.Row (rep p m) (f :: (r' ++ [f])) from x)
  have : g = f := by
    have e' : (f :: r') ++ [f] = l ++ [g] := e
    have := (List.append_inj' e' rfl).2
    simpa using this.symm
  subst this
  exact w
theorem Hand.Cl.rep {h : Hand} {p : List Int} (c : h.Cl p) (k : Nat) : h.Cl (KF.rep p k) := by
  obtain ⟨f, hf, w⟩ := c
  exact ⟨f, hf, Hand.wk_rep w k⟩
theorem Hand.Cl.back {h : Hand} {p : List Int} (c : h.Cl p) : h.Cl (turnB p) := by
  obtain ⟨f, hf, w⟩ := c
  exact ⟨f, hf, Hand.wk_back hf w⟩
theorem Hand.Cl.rot {h : Hand} {s : Int} {q : List Int} {k : Nat} (c : h.Cl (KF.rep (s :: q) (k + 1))) : h.Cl (KF.rep (q ++ [s]) (k + 1)) := by
  obtain ⟨f, hf, w⟩ := c
  rw [rep_rot] at w
  obtain ⟨g, hg, e, w⟩ := w
  refine ⟨g, hg, ?_⟩
  rw [rep_succ', ← List.append_assoc]
  exact Hand.wk_append.mpr ⟨f, w, Hand.wk_one.mpr ⟨hg, e⟩⟩
theorem Hand.Cl.rot' {h : Hand} {s : Int} {q : List Int} {k : Nat} (c : h.Cl (KF.rep (q ++ [s]) (k + 1))) : h.Cl (KF.rep (s :: q) (k + 1)) := by
  obtain ⟨f, hf, w⟩ := c
  rw [rep_rot', ← List.append_assoc] at w
  obtain ⟨g, w1, w2⟩ := Hand.wk_append.mp w
  refine ⟨g, w1.fg hf, ?_⟩
  obtain ⟨_, e⟩ := Hand.wk_one.mp w2
  rw [rep_rot]
  refine ⟨f, hf, e, ?_⟩
  have h0 : ∀ k, KF.rep (q ++ [s]) k ++ q = q ++ KF.rep (s :: q) k := by
    intro k
    induction k with
    | zero => simp [KF.rep]
    | succ k ih => rw [rep_succ, List.append_assoc, ih, rep_succ]; simp
  rw [h0]
  exact w1
theorem Hand.Cl.mono {h w : Hand} (m : ∀ f s g, Fg f → Fg g → h.st f s g = true → w.st f s g = true) {p : List Int} (c : h.Cl p) : w.Cl p := by
  obtain ⟨f, hf, k⟩ := c
  obtain ⟨r, x, l, e⟩ := Hand.wk_row hf k
  obtain ⟨l2, g, e2, hg, k2⟩ := (x.mono m).wk
  have : g = f := by
    rw [e] at e2
    have := congrArg List.getLast? e2
    simpa using this.symm
  subst this
  exact ⟨g, hf, k2⟩
/-- a row that closes is a loop -/
theorem isLoop_of {h : Hand} {p r' : List Int} {f : Int} {k : Nat} (l1 : 1 ≤ p.length) (hl : (f :: r').length = k * p.length) (x : h.Row (rep p k) (f :: r' ++ [f])) : h.isLoopB p (f :: r') = true := by
  have hd : (f :: r').length / p.length = k := by rw [hl]; exact Nat.mul_div_cancel _ l1
  have hm : (f :: r').length % p.length = 0 := by rw [hl]; exact Nat.mul_mod_left _ _
  obtain ⟨_, hf, pl⟩ := Hand.row_iff.mp x
  have ff : fgB (f :: r') = true := fgB_iff.mpr fun g hg => hf g (List.mem_append_left _ hg)
  unfold Hand.isLoopB
  rw [hd, hm, ff]
  simpa using pl
end KF
set_option maxHeartbeats 1000000
/-! KME: what the laws with own code have in common. -/
namespace KF
open L2
section
variable {ρ : En} {τ : Tau}
def resR : Res D → Res D
  | .ok d t => .ok (.tup [.str "returns", d]) t
  | .exc c t => .ok (.tup [.str (tagX c)]) t
  | .stuck => .stuck
@[simp] theorem fRes_r (f : Fe) : fRes f ρ τ = resR (f ρ τ) := by
  show resM (f ρ) τ = _
  unfold resM resR
  cases f ρ τ <;> rfl
@[simp] theorem resR_ok (d : D) (t : Tau) : resR (.ok d t) = .ok (.tup [.str "returns", d]) t := rfl
@[simp] theorem resR_exc (c : XC) (t : Tau) : resR (.exc c t) = .ok (.tup [.str (tagX c)]) t := rfl
@[simp] theorem appFa_r (j : Nat) (fa fk : Fa) : appFa j fa fk ρ τ = (fa ρ τ).bd fun xs t => if xs.length = j then (fk ρ t).bd fun ys t => .ok (xs ++ ys) t else .stuck := by
  unfold appFa
  simp
end
theorem st_two {h : Hand} (hh : h.Ok) {a b : Int} (ha : Fg a) (hb : Fg b) (l : a < b) : ∃ lo hi, h.sp[pix a b]? = some (lo, hi) ∧ h.span a b = (lo, hi) := by
  have hl := pix_lt ha hb l
  refine ⟨_, _, List.getElem?_eq_getElem (by rw [hh.len]; exact hl), ?_⟩
  unfold Hand.span
  rw [List.getD_eq_getElem?_getD, List.getElem?_eq_getElem (by rw [hh.len]; exact hl)]
  rfl
theorem r26 : rng2 [.int 2, .int 6] = some [.int 2, .int 3, .int 4, .int 5] := rfl
theorem r36 : rng2 [.int 3, .int 6] = some [.int 3, .int 4, .int 5] := rfl
theorem r46 : rng2 [.int 4, .int 6] = some [.int 4, .int 5] := rfl
theorem r56 : rng2 [.int 5, .int 6] = some [.int 5] := rfl
theorem r66 : rng2 [.int 6, .int 6] = some [] := rfl
theorem gEq_p (a b c d : Int) : gEq (.tup [.int a, .int b]) (.tup [.int c, .int d]) = some (.bl (decide (a = c) && decide (b = d))) := by
  have := gEq_iT [a, b] [c, d]
  show gEq (iT [a, b]) (iT [c, d]) = _
  rw [this]
  by_cases h1 : a = c <;> by_cases h2 : b = d <;> simp [h1, h2]
theorem ix0 (l : List D) : gIxA (.tup l) (.int 0) = l[0]? := gIxA_tup l 0
theorem ix1 (l : List D) : gIxA (.tup l) (.int 1) = l[1]? := gIxA_tup l 1
theorem ix2 (l : List D) : gIxA (.tup l) (.int 2) = l[2]? := gIxA_tup l 2
theorem ix3 (l : List D) : gIxA (.tup l) (.int 3) = l[3]? := gIxA_tup l 3
theorem ix4 (l : List D) : gIxA (.tup l) (.int 4) = l[4]? := gIxA_tup l 4
theorem ix5 (l : List D) : gIxA (.tup l) (.int 5) = l[5]? := gIxA_tup l 5
theorem ix6 (l : List D) : gIxA (.tup l) (.int 6) = l[6]? := gIxA_tup l 6
theorem ix7 (l : List D) : gIxA (.tup l) (.int 7) = l[7]? := gIxA_tup l 7
theorem ix8 (l : List D) : gIxA (.tup l) (.int 8) = l[8]? := gIxA_tup l 8
theorem ix9 (l : List D) : gIxA (.tup l) (.int 9) = l[9]? := gIxA_tup l 9
theorem px12 : pix 1 2 = 0 := by decide
theorem px13 : pix 1 3 = 1 := by decide
theorem px14 : pix 1 4 = 2 := by decide
theorem px15 : pix 1 5 = 3 := by decide
theorem px23 : pix 2 3 = 4 := by decide
theorem px24 : pix 2 4 = 5 := by decide
theorem px25 : pix 2 5 = 6 := by decide
theorem px34 : pix 3 4 = 7 := by decide
theorem px35 : pix 3 5 = 8 := by decide
theorem px45 : pix 4 5 = 9 := by decide
def inB : En → M Out := (fSeq (fIf (fB (f2 gEq (fSz .tup (fCons (fVar 7) (fCons (fVar 8) fNil))) (fSz .tup (fCons (fVar 4) (fCons (fVar 5) fNil)))))
    (fSeq (fAsg (.tup [(.name 9), (.name 10)]) (f2 gIxA (f2 gIxA (fBor 0) (fC (.int 0))) (fBor 6)))
    (fSeq (fAsg (.name 11) (fIfE (fB (f2 gEq (fBor 3) (fBor 5))) (fVar 2) (f2 gSub (fC (.int 0)) (fBor 2))))
    (fRet (fAndV (f2 gLe (fBor 9) (fBor 11)) (f2 gLe (fBor 11) (fBor 10))))))
    fNext)
    (fAsg (.name 6) (f2 gAdd (fBor 6) (fC (.int 1)))))
theorem inB_miss {hd u v w : Sl} {f s o a b p i j : Int} {τ : Tau} (n : ¬ (i = a ∧ j = b)) : inB [hd, .fz (.int f), .fz (.int s), .fz (.int o), .fz (.int a), .fz (.int b), .fz (.int p), .fz (.int i), .fz (.int j), u, v, w] τ =
    .ok (.next [hd, .fz (.int f), .fz (.int s), .fz (.int o), .fz (.int a), .fz (.int b), .fz (.int (p + 1)), .fz (.int i), .fz (.int j), u, v, w]) τ := by
  have e : (decide (i = a) && decide (j = b)) = false := by simpa using n
  simp [inB, gEq_p, e]
theorem inB_hit {h : Hand} {u v w : Sl} {f s o a b lo hi : Int} {p : Nat} {τ : Tau} (e : h.sp[p]? = some (lo, hi)) : inB [.fz h.d, .fz (.int f), .fz (.int s), .fz (.int o), .fz (.int a), .fz (.int b), .fz (.int (p : Int)), .fz (.int a), .fz (.int b), u, v, w] τ =
    .ok (.ret (.bl (decide (lo ≤ if o = b then s else 0 - s) && decide ((if o = b then s else 0 - s) ≤ hi)))) τ := by
  simp [inB, gEq_p, Hand.d, ix0, e, pD]
  by_cases z : o = b <;> simp [z] <;> (split <;> simp [*])
theorem in_miss {hd u v w : Sl} {f s o a b i : Int} {τ : Tau} : ∀ (l : List Int) (p : Int) (x : Sl), (∀ j ∈ l, ¬ (i = a ∧ j = b)) → ∃ x', loopF (.name 8) inB (l.map .int) [hd, .fz (.int f), .fz (.int s), .fz (.int o), .fz (.int a), .fz (.int b), .fz (.int p), .fz (.int i), x, u, v, w] τ =
    .ok (.next [hd, .fz (.int f), .fz (.int s), .fz (.int o), .fz (.int a), .fz (.int b), .fz (.int (p + l.length)), .fz (.int i), x', u, v, w]) τ
  | [], p, x, _ => ⟨x, by simp⟩
  | j :: l, p, x, h => by
    obtain ⟨x', e⟩ := in_miss l (p + 1) (.fz (.int j)) fun j' hj => h j' (List.mem_cons_of_mem _ hj)
    refine ⟨x', ?_⟩
    simp only [List.map_cons, loopF_cons, bindD_name, opt_some_r, bd_ok, List.set_cons_succ, List.set_cons_zero, inB_miss (h j List.mem_cons_self), loopK_next]
    rw [e]
    have : p + 1 + (l.length : Int) = p + ((j :: l).length : Nat) := by simp; omega
    rw [this]
theorem in_hit {h : Hand} {u v w : Sl} {f s o a b lo hi : Int} {τ : Tau} : ∀ (l r : List Int) (p : Nat) (x : Sl), (∀ j ∈ l, j ≠ b) → h.sp[p + l.length]? = some (lo, hi) → loopF (.name 8) inB ((l ++ b :: r).map .int) [.fz h.d, .fz (.int f), .fz (.int s), .fz (.int o), .fz (.int a), .fz (.int b), .fz (.int (p : Int)), .fz (.int a), x, u, v, w] τ =
    .ok (.ret (.bl (decide (lo ≤ if o = b then s else 0 - s) && decide ((if o = b then s else 0 - s) ≤ hi)))) τ
  | [], r, p, x, _, e => by
    have e : h.sp[p]? = some (lo, hi) := by simpa using e
    simp only [List.nil_append, List.map_cons, loopF_cons, bindD_name, opt_some_r, bd_ok, List.set_cons_succ, List.set_cons_zero, inB_hit e]
    rfl
  | j :: l, r, p, x, hl, e => by
    have ih := in_hit (τ := τ) (u := u) (v := v) (w := w) (f := f) (s := s) (o := o) (a := a) l r (p + 1) (.fz (.int j)) (fun j' hj => hl j' (List.mem_cons_of_mem _ hj)) (by rw [← e]; congr 1; simp; omega)
    simp only [List.cons_append, List.map_cons, loopF_cons, bindD_name, opt_some_r, bd_ok, List.set_cons_succ, List.set_cons_zero, inB_miss (i := a) (j := j) (fun z => hl j List.mem_cons_self z.2), loopK_next]
    rw [show (p : Int) + 1 = ((p + 1 : Nat) : Int) from by omega]
    exact ih
def outB : En → M Out := fFor (fRng rng2 (fCons (f2 gAdd (fBor 7) (fC (.int 1))) (fCons (fC (.int 6)) fNil))) (.name 8) inB
theorem out_miss {hd x u v w : Sl} {f s o a b p i : Int} {τ : Tau} (hi : Fg i) (n : i ≠ a) : ∃ x', outB [hd, .fz (.int f), .fz (.int s), .fz (.int o), .fz (.int a), .fz (.int b), .fz (.int p), .fz (.int i), x, u, v, w] τ =
    .ok (.next [hd, .fz (.int f), .fz (.int s), .fz (.int o), .fz (.int a), .fz (.int b), .fz (.int (p + (inner i).length)), .fz (.int i), x', u, v, w]) τ := by
  obtain ⟨x', e⟩ := in_miss (hd := hd) (u := u) (v := v) (w := w) (f := f) (s := s) (o := o) (a := a) (b := b) (i := i) (τ := τ) (inner i) p x (fun j _ z => n z.1)
  exact ⟨x', by simp [outB, rng_inner hi]; exact e⟩
theorem out_hit {h : Hand} {x u v w : Sl} {f s o a b lo hi : Int} {l r : List Int} {p : Nat} {τ : Tau} (ha : Fg a) (hin : inner a = l ++ b :: r) (hl : ∀ j ∈ l, j ≠ b) (e : h.sp[p + l.length]? = some (lo, hi)) :
    outB [.fz h.d, .fz (.int f), .fz (.int s), .fz (.int o), .fz (.int a), .fz (.int b), .fz (.int (p : Int)), .fz (.int a), x, u, v, w] τ = .ok (.ret (.bl (decide (lo ≤ if o = b then s else 0 - s) && decide ((if o = b then s else 0 - s) ≤ hi)))) τ := by
  have := in_hit (h := h) (u := u) (v := v) (w := w) (f := f) (s := s) (o := o) (a := a) (b := b) (τ := τ) l r p x hl e
  rw [← hin] at this
  simp [outB, rng_inner ha]
  simpa using this
theorem out12 {h : Hand} {x7 x u v w : Sl} {f s o lo hi : Int} {τ : Tau} (e : h.sp[0]? = some (lo, hi)) : loopF (.name 7) outB (FING.map .int) [.fz h.d, .fz (.int f), .fz (.int s), .fz (.int o), .fz (.int 1), .fz (.int 2), .fz (.int 0), x7, x, u, v, w] τ =
    .ok (.ret (.bl (decide (lo ≤ if o = 2 then s else 0 - s) && decide ((if o = 2 then s else 0 - s) ≤ hi)))) τ := by
  have hz := out_hit (h := h) (x := x) (u := u) (v := v) (w := w) (f := f) (s := s) (o := o) (a := 1) (b := 2) (l := []) (r := [3, 4, 5]) (p := 0) (τ := τ) (by decide) rfl (by decide) e
  have hz : outB [.fz h.d, .fz (.int f), .fz (.int s), .fz (.int o), .fz (.int 1), .fz (.int 2), .fz (.int 0), .fz (.int 1), x, u, v, w] τ = _ := hz
  simp only [FING, List.map_cons, loopF_cons, bindD_name, opt_some_r, bd_ok, List.set_cons_succ, List.set_cons_zero, loopK_next, hz]
  rfl
theorem out13 {h : Hand} {x7 x u v w : Sl} {f s o lo hi : Int} {τ : Tau} (e : h.sp[1]? = some (lo, hi)) : loopF (.name 7) outB (FING.map .int) [.fz h.d, .fz (.int f), .fz (.int s), .fz (.int o), .fz (.int 1), .fz (.int 3), .fz (.int 0), x7, x, u, v, w] τ =
    .ok (.ret (.bl (decide (lo ≤ if o = 3 then s else 0 - s) && decide ((if o = 3 then s else 0 - s) ≤ hi)))) τ := by
  have hz := out_hit (h := h) (x := x) (u := u) (v := v) (w := w) (f := f) (s := s) (o := o) (a := 1) (b := 3) (l := [2]) (r := [4, 5]) (p := 0) (τ := τ) (by decide) rfl (by decide) e
  have hz : outB [.fz h.d, .fz (.int f), .fz (.int s), .fz (.int o), .fz (.int 1), .fz (.int 3), .fz (.int 0), .fz (.int 1), x, u, v, w] τ = _ := hz
  simp only [FING, List.map_cons, loopF_cons, bindD_name, opt_some_r, bd_ok, List.set_cons_succ, List.set_cons_zero, loopK_next, hz]
  rfl
theorem out14 {h : Hand} {x7 x u v w : Sl} {f s o lo hi : Int} {τ : Tau} (e : h.sp[2]? = some (lo, hi)) : loopF (.name 7) outB (FING.map .int) [.fz h.d, .fz (.int f), .fz (.int s), .fz (.int o), .fz (.int 1), .fz (.int 4), .fz (.int 0), x7, x, u, v, w] τ =
    .ok (.ret (.bl (decide (lo ≤ if o = 4 then s else 0 - s) && decide ((if o = 4 then s else 0 - s) ≤ hi)))) τ := by
  have hz := out_hit (h := h) (x := x) (u := u) (v := v) (w := w) (f := f) (s := s) (o := o) (a := 1) (b := 4) (l := [2, 3]) (r := [5]) (p := 0) (τ := τ) (by decide) rfl (by decide) e
  have hz : outB [.fz h.d, .fz (.int f), .fz (.int s), .fz (.int o), .fz (.int 1), .fz (.int 4), .fz (.int 0), .fz (.int 1), x, u, v, w] τ = _ := hz
  simp only [FING, List.map_cons, loopF_cons, bindD_name, opt_some_r, bd_ok, List.set_cons_succ, List.set_cons_zero, loopK_next, hz]
  rfl
theorem out15 {h : Hand} {x7 x u v w : Sl} {f s o lo hi : Int} {τ : Tau} (e : h.sp[3]? = some (lo, hi)) : loopF (.name 7) outB (FING.map .int) [.fz h.d, .fz (.int f), .fz (.int s), .fz (.int o), .fz (.int 1), .fz (.int 5), .fz (.int 0), x7, x, u, v, w] τ =
    .ok (.ret (.bl (decide (lo ≤ if o = 5 then s else 0 - s) && decide ((if o = 5 then s else 0 - s) ≤ hi)))) τ := by
  have hz := out_hit (h := h) (x := x) (u := u) (v := v) (w := w) (f := f) (s := s) (o := o) (a := 1) (b := 5) (l := [2, 3, 4]) (r := []) (p := 0) (τ := τ) (by decide) rfl (by decide) e
  have hz : outB [.fz h.d, .fz (.int f), .fz (.int s), .fz (.int o), .fz (.int 1), .fz (.int 5), .fz (.int 0), .fz (.int 1), x, u, v, w] τ = _ := hz
  simp only [FING, List.map_cons, loopF_cons, bindD_name, opt_some_r, bd_ok, List.set_cons_succ, List.set_cons_zero, loopK_next, hz]
  rfl
theorem out23 {h : Hand} {x7 x u v w : Sl} {f s o lo hi : Int} {τ : Tau} (e : h.sp[4]? = some (lo, hi)) : loopF (.name 7) outB (FING.map .int) [.fz h.d, .fz (.int f), .fz (.int s), .fz (.int o), .fz (.int 2), .fz (.int 3), .fz (.int 0), x7, x, u, v, w] τ =
    .ok (.ret (.bl (decide (lo ≤ if o = 3 then s else 0 - s) && decide ((if o = 3 then s else 0 - s) ≤ hi)))) τ := by
  obtain ⟨y1, e1⟩ := out_miss (hd := .fz h.d) (x := x) (u := u) (v := v) (w := w) (f := f) (s := s) (o := o) (a := 2) (b := 3) (p := 0) (i := 1) (τ := τ) (by decide) (by decide)
  have e1 : _ = Res.ok (Out.next [.fz h.d, .fz (.int f), .fz (.int s), .fz (.int o), .fz (.int 2), .fz (.int 3), .fz (.int 4), .fz (.int 1), y1, u, v, w]) τ := e1
  have hz := out_hit (h := h) (x := y1) (u := u) (v := v) (w := w) (f := f) (s := s) (o := o) (a := 2) (b := 3) (l := []) (r := [4, 5]) (p := 4) (τ := τ) (by decide) rfl (by decide) e
  have hz : outB [.fz h.d, .fz (.int f), .fz (.int s), .fz (.int o), .fz (.int 2), .fz (.int 3), .fz (.int 4), .fz (.int 2), y1, u, v, w] τ = _ := hz
  simp only [FING, List.map_cons, loopF_cons, bindD_name, opt_some_r, bd_ok, List.set_cons_succ, List.set_cons_zero, e1, loopK_next, hz]
  rfl
theorem out24 {h : Hand} {x7 x u v w : Sl} {f s o lo hi : Int} {τ : Tau} (e : h.sp[5]? = some (lo, hi)) : loopF (.name 7) outB (FING.map .int) [.fz h.d, .fz (.int f), .fz (.int s), .fz (.int o), .fz (.int 2), .fz (.int 4), .fz (.int 0), x7, x, u, v, w] τ =
    .ok (.ret (.bl (decide (lo ≤ if o = 4 then s else 0 - s) && decide ((if o = 4 then s else 0 - s) ≤ hi)))) τ := by
  obtain ⟨y1, e1⟩ := out_miss (hd := .fz h.d) (x := x) (u := u) (v := v) (w := w) (f := f) (s := s) (o := o) (a := 2) (b := 4) (p := 0) (i := 1) (τ := τ) (by decide) (by decide)
  have e1 : _ = Res.ok (Out.next [.fz h.d, .fz (.int f), .fz (.int s), .fz (.int o), .fz (.int 2), .fz (.int 4), .fz (.int 4), .fz (.int 1), y1, u, v, w]) τ := e1
  have hz := out_hit (h := h) (x := y1) (u := u) (v := v) (w := w) (f := f) (s := s) (o := o) (a := 2) (b := 4) (l := [3]) (r := [5]) (p := 4) (τ := τ) (by decide) rfl (by decide) e
  have hz : outB [.fz h.d, .fz (.int f), .fz (.int s), .fz (.int o), .fz (.int 2), .fz (.int 4), .fz (.int 4), .fz (.int 2), y1, u, v, w] τ = _ := hz
  simp only [FING, List.map_cons, loopF_cons, bindD_name, opt_some_r, bd_ok, List.set_cons_succ, List.set_cons_zero, e1, loopK_next, hz]
  rfl
theorem out25 {h : Hand} {x7 x u v w : Sl} {f s o lo hi : Int} {τ : Tau} (e : h.sp[6]? = some (lo, hi)) : loopF (.name 7) outB (FING.map .int) [.fz h.d, .fz (.int f), .fz (.int s), .fz (.int o), .fz (.int 2), .fz (.int 5), .fz (.int 0), x7, x, u, v, w] τ =
    .ok (.ret (.bl (decide (lo ≤ if o = 5 then s else 0 - s) && decide ((if o = 5 then s else 0 - s) ≤ hi)))) τ := by
  obtain ⟨y1, e1⟩ := out_miss (hd := .fz h.d) (x := x) (u := u) (v := v) (w := w) (f := f) (s := s) (o := o) (a := 2) (b := 5) (p := 0) (i := 1) (τ := τ) (by decide) (by decide)
  have e1 : _ = Res.ok (Out.next [.fz h.d, .fz (.int f), .fz (.int s), .fz (.int o), .fz (.int 2), .fz (.int 5), .fz (.int 4), .fz (.int 1), y1, u, v, w]) τ := e1
  have hz := out_hit (h := h) (x := y1) (u := u) (v := v) (w := w) (f := f) (s := s) (o := o) (a := 2) (b := 5) (l := [3, 4]) (r := []) (p := 4) (τ := τ) (by decide) rfl (by decide) e
  have hz : outB [.fz h.d, .fz (.int f), .fz (.int s), .fz (.int o), .fz (.int 2), .fz (.int 5), .fz (.int 4), .fz (.int 2), y1, u, v, w] τ = _ := hz
  simp only [FING, List.map_cons, loopF_cons, bindD_name, opt_some_r, bd_ok, List.set_cons_succ, List.set_cons_zero, e1, loopK_next, hz]
  rfl
theorem out34 {h : Hand} {x7 x u v w : Sl} {f s o lo hi : Int} {τ : Tau} (e : h.sp[7]? = some (lo, hi)) : loopF (.name 7) outB (FING.map .int) [.fz h.d, .fz (.int f), .fz (.int s), .fz (.int o), .fz (.int 3), .fz (.int 4), .fz (.int 0), x7, x, u, v, w] τ =
    .ok (.ret (.bl (decide (lo ≤ if o = 4 then s else 0 - s) && decide ((if o = 4 then s else 0 - s) ≤ hi)))) τ := by
  obtain ⟨y1, e1⟩ := out_miss (hd := .fz h.d) (x := x) (u := u) (v := v) (w := w) (f := f) (s := s) (o := o) (a := 3) (b := 4) (p := 0) (i := 1) (τ := τ) (by decide) (by decide)
  have e1 : _ = Res.ok (Out.next [.fz h.d, .fz (.int f), .fz (.int s), .fz (.int o), .fz (.int 3), .fz (.int 4), .fz (.int 4), .fz (.int 1), y1, u, v, w]) τ := e1
  obtain ⟨y2, e2⟩ := out_miss (hd := .fz h.d) (x := y1) (u := u) (v := v) (w := w) (f := f) (s := s) (o := o) (a := 3) (b := 4) (p := 4) (i := 2) (τ := τ) (by decide) (by decide)
  have e2 : _ = Res.ok (Out.next [.fz h.d, .fz (.int f), .fz (.int s), .fz (.int o), .fz (.int 3), .fz (.int 4), .fz (.int 7), .fz (.int 2), y2, u, v, w]) τ := e2
  have hz := out_hit (h := h) (x := y2) (u := u) (v := v) (w := w) (f := f) (s := s) (o := o) (a := 3) (b := 4) (l := []) (r := [5]) (p := 7) (τ := τ) (by decide) rfl (by decide) e
  have hz : outB [.fz h.d, .fz (.int f), .fz (.int s), .fz (.int o), .fz (.int 3), .fz (.int 4), .fz (.int 7), .fz (.int 3), y2, u, v, w] τ = _ := hz
  simp only [FING, List.map_cons, loopF_cons, bindD_name, opt_some_r, bd_ok, List.set_cons_succ, List.set_cons_zero, e1, e2, loopK_next, hz]
  rfl
theorem out35 {h : Hand} {x7 x u v w : Sl} {f s o lo hi : Int} {τ : Tau} (e : h.sp[8]? = some (lo, hi)) : loopF (.name 7) outB (FING.map .int) [.fz h.d, .fz (.int f), .fz (.int s), .fz (.int o), .fz (.int 3), .fz (.int 5), .fz (.int 0), x7, x, u, v, w] τ =
    .ok (.ret (.bl (decide (lo ≤ if o = 5 then s else 0 - s) && decide ((if o = 5 then s else 0 - s) ≤ hi)))) τ := by
  obtain ⟨y1, e1⟩ := out_miss (hd := .fz h.d) (x := x) (u := u) (v := v) (w := w) (f := f) (s := s) (o := o) (a := 3) (b := 5) (p := 0) (i := 1) (τ := τ) (by decide) (by decide)
  have e1 : _ = Res.ok (Out.next [.fz h.d, .fz (.int f), .fz (.int s), .fz (.int o), .fz (.int 3), .fz (.int 5), .fz (.int 4), .fz (.int 1), y1, u, v, w]) τ := e1
  obtain ⟨y2, e2⟩ := out_miss (hd := .fz h.d) (x := y1) (u := u) (v := v) (w := w) (f := f) (s := s) (o := o) (a := 3) (b := 5) (p := 4) (i := 2) (τ := τ) (by decide) (by decide)
  have e2 : _ = Res.ok (Out.next [.fz h.d, .fz (.int f), .fz (.int s), .fz (.int o), .fz (.int 3), .fz (.int 5), .fz (.int 7), .fz (.int 2), y2, u, v, w]) τ := e2
  have hz := out_hit (h := h) (x := y2) (u := u) (v := v) (w := w) (f := f) (s := s) (o := o) (a := 3) (b := 5) (l := [4]) (r := []) (p := 7) (τ := τ) (by decide) rfl (by decide) e
  have hz : outB [.fz h.d, .fz (.int f), .fz (.int s), .fz (.int o), .fz (.int 3), .fz (.int 5), .fz (.int 7), .fz (.int 3), y2, u, v, w] τ = _ := hz
  simp only [FING, List.map_cons, loopF_cons, bindD_name, opt_some_r, bd_ok, List.set_cons_succ, List.set_cons_zero, e1, e2, loopK_next, hz]
  rfl
theorem out45 {h : Hand} {x7 x u v w : Sl} {f s o lo hi : Int} {τ : Tau} (e : h.sp[9]? = some (lo, hi)) : loopF (.name 7) outB (FING.map .int) [.fz h.d, .fz (.int f), .fz (.int s), .fz (.int o), .fz (.int 4), .fz (.int 5), .fz (.int 0), x7, x, u, v, w] τ =
    .ok (.ret (.bl (decide (lo ≤ if o = 5 then s else 0 - s) && decide ((if o = 5 then s else 0 - s) ≤ hi)))) τ := by
  obtain ⟨y1, e1⟩ := out_miss (hd := .fz h.d) (x := x) (u := u) (v := v) (w := w) (f := f) (s := s) (o := o) (a := 4) (b := 5) (p := 0) (i := 1) (τ := τ) (by decide) (by decide)
  have e1 : _ = Res.ok (Out.next [.fz h.d, .fz (.int f), .fz (.int s), .fz (.int o), .fz (.int 4), .fz (.int 5), .fz (.int 4), .fz (.int 1), y1, u, v, w]) τ := e1
  obtain ⟨y2, e2⟩ := out_miss (hd := .fz h.d) (x := y1) (u := u) (v := v) (w := w) (f := f) (s := s) (o := o) (a := 4) (b := 5) (p := 4) (i := 2) (τ := τ) (by decide) (by decide)
  have e2 : _ = Res.ok (Out.next [.fz h.d, .fz (.int f), .fz (.int s), .fz (.int o), .fz (.int 4), .fz (.int 5), .fz (.int 7), .fz (.int 2), y2, u, v, w]) τ := e2
  obtain ⟨y3, e3⟩ := out_miss (hd := .fz h.d) (x := y2) (u := u) (v := v) (w := w) (f := f) (s := s) (o := o) (a := 4) (b := 5) (p := 7) (i := 3) (τ := τ) (by decide) (by decide)
  have e3 : _ = Res.ok (Out.next [.fz h.d, .fz (.int f), .fz (.int s), .fz (.int o), .fz (.int 4), .fz (.int 5), .fz (.int 9), .fz (.int 3), y3, u, v, w]) τ := e3
  have hz := out_hit (h := h) (x := y3) (u := u) (v := v) (w := w) (f := f) (s := s) (o := o) (a := 4) (b := 5) (l := []) (r := []) (p := 9) (τ := τ) (by decide) rfl (by decide) e
  have hz : outB [.fz h.d, .fz (.int f), .fz (.int s), .fz (.int o), .fz (.int 4), .fz (.int 5), .fz (.int 9), .fz (.int 4), y3, u, v, w] τ = _ := hz
  simp only [FING, List.map_cons, loopF_cons, bindD_name, opt_some_r, bd_ok, List.set_cons_succ, List.set_cons_zero, e1, e2, e3, loopK_next, hz]
  rfl
theorem law_does_run {h : Hand} (hh : h.Ok) {f s o : Int} (hf : Fg f) (ho : Fg o) (τ : Tau) : m__law_does [h.d, .int f, .int s, .int o] τ = .ok (.bl (h.st f s o)) τ := by
  by_cases e : f = o
  · subst e
    simp [m__law_does, B__law_does, Hand.d, gIxA_1, Hand.st]
    by_cases z : s ≤ h.hop <;> simp [z] <;> omega
  · have main : ∀ {a b lo hi : Int}, Fg a → Fg b → a < b → h.sp[pix a b]? = some (lo, hi) → (if f < o then f else o) = a → (if f < o then o else f) = b →
        m__law_does [h.d, .int f, .int s, .int o] τ = .ok (.bl (decide (lo ≤ if o = b then s else 0 - s) && decide ((if o = b then s else 0 - s) ≤ hi))) τ := by
      intro a b lo hi ha hb hab e1 m1 m2
      have key : ∀ {x7 x u v w : Sl}, loopF (.name 7) outB (FING.map .int) [.fz h.d, .fz (.int f), .fz (.int s), .fz (.int o), .fz (.int a), .fz (.int b), .fz (.int 0), x7, x, u, v, w] τ = .ok (.ret (.bl (decide (lo ≤ if o = b then s else 0 - s) && decide ((if o = b then s else 0 - s) ≤ hi)))) τ := by
        intro x7 x u v w
        rcases ha.cases with rfl | rfl | rfl | rfl | rfl <;> rcases hb.cases with rfl | rfl | rfl | rfl | rfl <;> first | (exfalso; omega) | skip
        · exact out12 (by rw [px12] at e1; exact e1)
        · exact out13 (by rw [px13] at e1; exact e1)
        · exact out14 (by rw [px14] at e1; exact e1)
        · exact out15 (by rw [px15] at e1; exact e1)
        · exact out23 (by rw [px23] at e1; exact e1)
        · exact out24 (by rw [px24] at e1; exact e1)
        · exact out25 (by rw [px25] at e1; exact e1)
        · exact out34 (by rw [px34] at e1; exact e1)
        · exact out35 (by rw [px35] at e1; exact e1)
        · exact out45 (by rw [px45] at e1; exact e1)
      have m3 : (if o < f then o else f) = a := by rw [← m1]; split <;> split <;> omega
      have k := key (x7 := .un) (x := .un) (u := .un) (v := .un) (w := .un)
      unfold outB inB at k
      simp [m__law_does, B__law_does, e, m2, m3, rng_fing]
      rw [k]
      simp
    by_cases hlt : f < o
    · obtain ⟨lo, hi, e1, e2⟩ := st_two hh hf ho hlt
      rw [main hf ho hlt e1 (by rw [if_pos hlt]) (by rw [if_pos hlt])]
      simp [Hand.st, e, hlt, e2]
    · have hgt : o < f := by omega
      obtain ⟨lo, hi, e1, e2⟩ := st_two hh ho hf hgt
      rw [main ho hf hgt e1 (by rw [if_neg hlt]) (by rw [if_neg hlt])]
      simp [Hand.st, e, hlt, e2, show ¬ o = f from fun z => e z.symm]
def afB : En → M Out := (fIf (fB (f2 gNe (fLc (fItA (fVar 1)) (.name 5) (fTru (fCallM m__law_does 4 (fCons (fVar 0) (fCons (fVar 5) (fCons (fVar 2) (fCons (fVar 4) fNil)))))) (fVar 5) [5]) (fSz .lst fNil)))
    (fApp 3 (fVar 4))
    fNext)
theorem afB_run {h : Hand} (hh : h.Ok) {fs : List Int} {s o : Int} (hf : ∀ f ∈ fs, Fg f) (hfl : fs.length ≤ 1000) (ho : Fg o) {l : List Int} (hl : l.length < 100) {τ : Tau} : afB [.fz h.d, .fz (iT fs), .fz (.int s), .ow (iL l), .fz (.int o), .un] τ =
    .ok (.next [.fz h.d, .fz (iT fs), .fz (.int s), .ow (iL (l ++ if (fs.any fun f => h.st f s o) = true then [o] else [])), .fz (.int o), .un]) τ := by
  simp only [afB, fIf_r, fB_r, f2_r]
  rw [fLc_map D.int fs (fun f' => h.st f' s o) D.int (by simp) (by simp [SZ]; omega) ?_]
  · simp only [bd_ok, fSz_r, fNil_r, List.length_nil, SZ_eq, Nat.zero_le, if_true, gNe_iL0, opt_some_r, toB_r]
    by_cases z : (fs.any fun f => h.st f s o) = true
    · have z' : decide (fs.filter (fun f' => h.st f' s o) = []) = false := by
        rw [decide_eq_false_iff_not]
        intro e
        obtain ⟨f, m, q⟩ := List.any_eq_true.mp z
        have := List.filter_eq_nil_iff.mp e f m
        exact this q
      simp only [z', z, Bool.not_false, if_true]
      simp [lstOf, SZ]
      rw [if_pos (by omega)]
      simp
    · have z' : decide (fs.filter (fun f' => h.st f' s o) = []) = true := by
        rw [decide_eq_true_eq, List.filter_eq_nil_iff]
        intro f m q
        exact z (List.any_eq_true.mpr ⟨f, m, q⟩)
      simp only [z', z, Bool.not_true]
      simp
  · intro f' hm
    exact ⟨_, bindD_name _ _ _, by simp [wipeE, law_does_run hh (hf f' hm) ho], fun _ => by simp [wipeE]⟩
theorem af_loop {h : Hand} (hh : h.Ok) {fs : List Int} {s : Int} (hf : ∀ f ∈ fs, Fg f) (hfl : fs.length ≤ 1000) {τ : Tau} : ∀ (l dn : List Int) (x : Sl), (∀ o ∈ l, Fg o) → dn.length + l.length < 100 → ∃ x', loopF (.name 4) afB (l.map .int) [.fz h.d, .fz (iT fs), .fz (.int s), .ow (iL dn), x, .un] τ =
    .ok (.next [.fz h.d, .fz (iT fs), .fz (.int s), .ow (iL (dn ++ l.filter fun o => fs.any fun f => h.st f s o)), x', .un]) τ
  | [], dn, x, _, _ => ⟨x, by simp⟩
  | o :: l, dn, x, ho, hl => by
    have hlen : (dn ++ if (fs.any fun f => h.st f s o) = true then [o] else []).length + l.length < 100 := by
      simp only [List.length_append, List.length_cons] at hl ⊢
      split <;> simp <;> omega
    obtain ⟨x', e⟩ := af_loop hh hf hfl l (dn ++ if (fs.any fun f => h.st f s o) = true then [o] else []) (.fz (.int o)) (fun o' h' => ho o' (List.mem_cons_of_mem _ h')) hlen
    refine ⟨x', ?_⟩
    simp only [List.map_cons, loopF_cons, bindD_name, opt_some_r, bd_ok, List.set_cons_succ, List.set_cons_zero, afB_run hh hf hfl (ho o List.mem_cons_self) (show dn.length < 100 by omega), loopK_next]
    rw [e]
    cases z : (fs.any fun f => h.st f s o) <;> simp [z]
theorem law_after_runs {h : Hand} (hh : h.Ok) {fs : List Int} {s : Int} (hf : ∀ f ∈ fs, Fg f) (hfl : fs.length ≤ 1000) (τ : Tau) : m__law_after [h.d, iT fs, .int s] τ = .ok (iT (h.af fs s)) τ := by
  obtain ⟨x', e⟩ := af_loop hh hf hfl (s := s) (τ := τ) FING [] .un (fun o ho => fing_fg.mp ho) (by decide)
  unfold afB at e
  simp only [m__law_after, mOf_r, B__law_after, fSeq_r, fFor_r, fRng_r, fAsgO_r, fSz_r, fNil_r, fCons_r, fC_r, List.map_cons, List.map_nil, List.cons_append, List.nil_append, List.length_cons, List.length_nil, bd_ok, rng_fing, opt_some_r, seqK_next, SZ_eq, Nat.zero_le, if_true]
  show ((loopF _ _ _ [Sl.fz h.d, .fz (iT fs), .fz (.int s), .ow (iL []), .un, .un] τ).bd _).bd _ = _
  rw [e]
  simp [Hand.af]
theorem law_after_run {h : Hand} (hh : h.Ok) {f s : Int} (hf : Fg f) (τ : Tau) : m__law_after [h.d, iT [f], .int s] τ = .ok (iT (h.af [f] s)) τ :=
  law_after_runs hh (fun f' m => by rw [List.mem_singleton.mp m]; exact hf) (by simp) τ
/-! ### what is no finger, no step, no hand -/
def oddF : List D := [.non, .int 0, .int 6, .bl true, .str "1"]
def oddS : List D := [.non, .int 100, .int (-100), .bl true, .str "1"]
theorem cf_odd : ∀ d ∈ oddF, ∀ τ, m_check_finger [d] τ = .exc .finger τ := by
  intro d hd τ
  simp only [oddF, List.mem_cons, List.not_mem_nil, or_false] at hd
  rcases hd with rfl | rfl | rfl | rfl | rfl <;> rfl
theorem cs_odd : ∀ d ∈ oddS, ∀ τ, m_check_step [d] τ = .exc .step τ := by
  intro d hd τ
  simp only [oddS, List.mem_cons, List.not_mem_nil, or_false] at hd
  rcases hd with rfl | rfl | rfl | rfl | rfl <;> rfl
theorem ch_odd (τ : Tau) : m_check_hand [.non] τ = .exc .hand τ := rfl
@[simp] theorem exc_bd {α β : Type} (c : XC) (τ : Tau) (k : α → Tau → Res β) : (Res.exc c τ : Res α).bd k = .exc c τ := rfl
theorem can_odd1 {h : Hand} (hh : h.Ok) {d : D} (hd : d ∈ oddF) (τ : Tau) (a b : D) : m_can_step [h.d, d, a, b] τ = .exc .finger τ := by
  simp [m_can_step, B_can_step, check_hand_run hh, cf_odd d hd]
theorem can_odd2 {h : Hand} (hh : h.Ok) {d : D} (hd : d ∈ oddF) (τ : Tau) (a : D) : m_can_step [h.d, .int 1, a, d] τ = .exc .finger τ := by
  simp [m_can_step, B_can_step, check_hand_run hh, cf_odd d hd, check_finger_run (show Fg 1 by decide)]
theorem can_odd3 {h : Hand} (hh : h.Ok) {d : D} (hd : d ∈ oddS) (τ : Tau) : m_can_step [h.d, .int 1, d, .int 5] τ = .exc .step τ := by
  simp [m_can_step, B_can_step, check_hand_run hh, cs_odd d hd, check_finger_run (show Fg 1 by decide), check_finger_run (show Fg 5 by decide)]
theorem next_odd1 {h : Hand} (hh : h.Ok) {d : D} (hd : d ∈ oddF) (τ : Tau) (a : D) : m_next_fingers [h.d, d, a] τ = .exc .finger τ := by
  simp [m_next_fingers, B_next_fingers, check_hand_run hh, cf_odd d hd]
theorem next_odd2 {h : Hand} (hh : h.Ok) {d : D} (hd : d ∈ oddS) (τ : Tau) : m_next_fingers [h.d, .int 1, d] τ = .exc .step τ := by
  simp [m_next_fingers, B_next_fingers, check_hand_run hh, cs_odd d hd, check_finger_run (show Fg 1 by decide)]
theorem can_odd0 (τ : Tau) : m_can_step [.non, .int 0, .non, .int 0] τ = .exc .hand τ := by
  simp [m_can_step, B_can_step, ch_odd]
theorem gAdd_iLL (a b : List Int) (h : a.length + b.length ≤ 1000000) : gAdd (iL a) (iL b) = some (iL (a ++ b)) := by
  have e : cL (iL a) (iL b) = some (.lst (a.map .int ++ b.map .int)) := by
    show (if (a.map D.int).length + (b.map D.int).length ≤ SZ then some (D.lst (a.map .int ++ b.map .int)) else none) = _
    rw [if_pos (by simpa [SZ] using h)]
  have e2 : cT (iL a) (iL b) = none := rfl
  simp [gAdd, onI, e, e2]
theorem st_bound {h : Hand} (hh : h.Ok) {f s o : Int} (hf : Fg f) (ho : Fg o) (e : h.st f s o = true) : -12 ≤ s ∧ s ≤ 12 := by
  have sp : ∀ {a b : Int}, Fg a → Fg b → a < b → -6 ≤ (h.span a b).1 ∧ (h.span a b).2 ≤ 12 := fun {a b} ha hb l => by
    obtain ⟨lo, hi, e1, e2⟩ := st_two hh ha hb l
    obtain ⟨q1, q2, q3, q4⟩ := hh.sps _ _ e1
    rw [e2]
    dsimp only at q1 q2 q3 q4 ⊢
    constructor
    · split at q1 <;> omega
    · exact q4
  have h3 := hh.hop3
  unfold Hand.st at e
  split at e
  · simp only [decide_eq_true_eq] at e; omega
  · split at e
    · rename_i n l
      have := sp hf ho l
      simp only [Bool.and_eq_true, decide_eq_true_eq] at e
      omega
    · rename_i n l
      have := sp ho hf (by omega)
      simp only [Bool.and_eq_true, decide_eq_true_eq] at e
      omega
theorem law_is_run (b c : Bool) (τ : Tau) : m__law_is [.bl b, .bl c] τ = .ok (.bl (decide (b = c))) τ := by
  cases b <;> cases c <;> rfl
theorem w6 : gNe (.tup [.str "hand"]) (.tup [.str "hand"]) = some (.bl false) := by kernel_rfl
end KF
set_option maxHeartbeats 1000000
/-! KMF: drawn passages. -/
namespace KF
open L2
theorem is_passage_all (p : List Int) (hl : p.length ≤ 12) (τ : Tau) : m_is_passage [iT p] τ = .ok (.bl (p.all fun s => decide (0 ≤ s) && decide (s ≤ 99))) τ := by
  have e2 : (p.length : Int) ≤ 12 := by omega
  simp [m_is_passage, B_is_passage, isiD, tyN, isiB, e2]
  rw [fLc_all D.int p (fun s => .bl (decide (0 ≤ s) && decide (s ≤ 99))) (by simp) (by show _ ≤ 1000000; omega) fun s _ => ⟨_, bindD_name _ _ _, by simp [wipeE, is_note_run]⟩]
  simp only [bd_ok, gAll_map, opt_some_r]
theorem passage_run {ns : List Int} (hn : ns.length ≤ 63) {n : Nat} {τ : Tau} (T : Town ns n τ) {most : Nat} (h12 : most ≤ 12) : (m__law_passage [.scr ns, .obj n, .int (most : Int)] τ).sat fun d τ' => (∃ p : List Int, Psg p ∧ p.length ≤ most ∧ d = iT p) ∧ Town ns n τ' := by
  simp [m__law_passage, B__law_passage]
  refine draw_bd hn T (by decide) (by decide) fun r τ1 r0 r1 T1 => ?_
  simp
  refine draw_bd hn T1 (by omega) (by omega) fun q τ2 q0 q1 T2 => ?_
  obtain ⟨m, rfl⟩ : ∃ m : Nat, q = (m : Int) := ⟨q.toNat, by omega⟩
  simp [rng1_run m (by omega)]
  refine loop_sat D.int (fun i ρ τ => Town ns n τ ∧ ∃ (at_ : Int) (p : List Int) (x : Sl), ρ = [.fz (.scr ns), .fz (.obj n), .fz (.int (most : Int)), .fz (.int at_), .fz (iT p), x] ∧ p.length = i ∧ i ≤ m ∧ (44 - 4 * (i : Int) ≤ at_ ∧ at_ ≤ 55 + 4 * (i : Int)) ∧ ∀ y ∈ p, 0 ≤ y ∧ y ≤ 99) (upto m) ⟨T2, 44 + r, [], _, rfl, rfl, Nat.zero_le _, ⟨by omega, by omega⟩, by simp⟩ ?_ ?_
  · rintro i a _ τ3 hi ⟨T3, at_, p, x, rfl, hl, him, hb, hp⟩
    obtain ⟨ea, hlt⟩ := upto_get hi
    refine ⟨_, bindD_name _ _ _, ?_⟩
    have ga : gAdd (iT p) (.tup [.int at_]) = some (iT (p ++ [at_])) := by
      have := gAdd_tup (p.map D.int) [.int at_] (by simp [SZ]; omega)
      rw [this]
      simp
    simp [ga]
    refine draw_bd hn T3 (by decide) (by decide) fun t τ4 t0 t1 T4 => ?_
    simp
    refine ⟨T4, at_ + t - 4, p ++ [at_], ⟨rfl, by simp⟩, by simp [hl], by omega, ⟨by omega, by omega⟩, ?_⟩
    intro y hy
    rcases List.mem_append.mp hy with hy | hy
    · exact hp y hy
    · rw [List.mem_singleton.mp hy]
      omega
  · rintro _ τ3 ⟨T3, at_, p, x, rfl, hl, him, hb, hp⟩
    rw [upto_len] at hl
    simp
    exact ⟨⟨p, ⟨by omega, hp⟩, by omega, rfl⟩, T3⟩
end KF
set_option maxHeartbeats 1000000
/-! KMG: fingerings counted, the first one, where a passage gets stuck. -/
namespace KF
open L2
/-! ### counting -/
abbrev dk (k : Int → Int) : D := .dic (FING.map .int) (FING.map fun f => .int (k f))
theorem dk_get (k : Int → Int) : ∀ f ∈ FING, gDget (dk k) (.int f) = some (.int (k f)) := by
  intro f hf
  rcases (fing_fg.mp hf).cases with rfl | rfl | rfl | rfl | rfl <;> rfl
theorem dcF_step {j : Nat} {fv : Fe} {ρ : En} {τ : Tau} {f v : Int} {ds : List D} {acc : List D × List D} (hj : j < ρ.length) (h : fv (ρ.set j (.fz (.int f))) τ = .ok (.int v) τ) (h1 : acc.1.length < SZ ∧ nodK acc.1 = true) :
    dcF (.name j) (fun _ => M.ret true) (fVar j) fv ρ (.int f :: ds) acc τ = dcF (.name j) (fun _ => M.ret true) (fVar j) fv ρ ds (putD (.inl f) (.int v) acc.1 acc.2) τ := by
  have e1 : (ρ.set j (.fz (.int f)))[j]? = some (.fz (.int f)) := by simp [hj]
  rw [dcF]
  simp only [bnd_r, bindD_name, opt_some_r, bd_ok, noX_r, ret_r, if_true, fVar_r, e1, h, keyOf, h1, and_self]
theorem fDc_fing {j : Nat} {fv : Fe} {ρ : En} {τ : Tau} (g : Int → Int) (hj : j < ρ.length) (h : ∀ f ∈ FING, fv ((wipeE ρ [j]).set j (.fz (.int f))) τ = .ok (.int (g f)) τ) : fDc (fItA (fC c_FINGERS)) (.name j) (fun _ => M.ret true) (fVar j) fv [j] ρ τ = .ok (dk g) τ := by
  have hl : j < (wipeE ρ [j]).length := by simpa [wipeE] using hj
  have h1 := h 1 (by decide)
  have h2 := h 2 (by decide)
  have h3 := h 3 (by decide)
  have h4 := h 4 (by decide)
  have h5 := h 5 (by decide)
  unfold fDc
  show (dcF (.name j) (fun _ => M.ret true) (fVar j) fv (wipeE ρ [j]) l_FINGERS ([], []) τ).bd _ = _
  unfold l_FINGERS
  rw [dcF_step hl h1 ⟨Nat.le_of_ble_eq_true rfl, rfl⟩, dcF_step hl h2 ⟨Nat.le_of_ble_eq_true rfl, rfl⟩, dcF_step hl h3 ⟨Nat.le_of_ble_eq_true rfl, rfl⟩, dcF_step hl h4 ⟨Nat.le_of_ble_eq_true rfl, rfl⟩, dcF_step hl h5 ⟨Nat.le_of_ble_eq_true rfl, rfl⟩]
  rfl
def Hand.stepK (h : Hand) (s : Int) (k : Int → Int) : Int → Int := fun o => ((FING.filter fun f => h.st f s o).map k).sum
def Hand.cw (h : Hand) : List Int → (Int → Int) → (Int → Int)
  | [], k => k
  | s :: p, k => Hand.cw h p (h.stepK s k)
def Hand.many (h : Hand) (p : List Int) : Int := (FING.map (h.cw p fun _ => 1)).sum
def cntB : En → M Out := (fAsgO 2 (fDc (fItA (fC c_FINGERS)) (.name 5) (fun _ => M.ret true) (fVar 5) (fN gSum (fCons (fLc (fItA (fC c_FINGERS)) (.name 6) (fTru (fCallM m_does_step 4 (fCons (fVar 0) (fCons (fVar 6) (fCons (fVar 3) (fCons (fVar 5) fNil)))))) (f2 gDget (fBor 2) (fBor 6)) [6]) fNil)) [5]))
theorem cntB_run {h : Hand} (hh : h.Ok) (k : Int → Int) (s : Int) {x1 x4 x5 x6 : Sl} {τ : Tau} : cntB [.fz h.d, x1, .ow (dk k), .fz (.int s), x4, x5, x6] τ = .ok (.next [.fz h.d, x1, .ow (dk (h.stepK s k)), .fz (.int s), x4, x5, x6]) τ := by
  unfold cntB
  rw [fAsgO_r, fDc_fing (h.stepK s k) (by simp) fun o ho => ?_]
  · rfl
  · simp only [wipeE, fN_r, fCons_r, fNil_r, List.set_cons_succ, List.set_cons_zero]
    rw [fLc_map D.int FING (fun f => h.st f s o) (fun f => .int (k f)) (by rfl) (by decide) fun f hf => ⟨_, bindD_name _ _ _, ?_, fun _ => ?_⟩]
    · have e : (List.map (fun f => D.int (k f)) (List.filter (fun f => h.st f s o) FING)) = ((FING.filter fun f => h.st f s o).map k).map .int := by rw [List.map_map]; rfl
      simp only [bd_ok, e, gSum_ints, opt_some_r]
      rfl
    · simp [wipeE, does_step_run hh (fing_fg.mp hf) (fing_fg.mp ho)]
    · simp [wipeE, dk_get k f hf]
theorem cnt_loop {h : Hand} (hh : h.Ok) {x1 x4 x5 x6 : Sl} {τ : Tau} : ∀ (p : List Int) (k : Int → Int) (x3 : Sl), ∃ z, loopF (.name 3) cntB (p.map .int) [.fz h.d, x1, .ow (dk k), x3, x4, x5, x6] τ = .ok (.next [.fz h.d, x1, .ow (dk (h.cw p k)), z, x4, x5, x6]) τ
  | [], k, x3 => ⟨x3, rfl⟩
  | s :: p, k, x3 => by
    obtain ⟨z, e⟩ := cnt_loop hh (x1 := x1) (x4 := x4) (x5 := x5) (x6 := x6) (τ := τ) p (h.stepK s k) (.fz (.int s))
    refine ⟨z, ?_⟩
    simp only [List.map_cons, loopF_cons, bindD_name, opt_some_r, bd_ok, List.set_cons_succ, List.set_cons_zero, cntB_run hh, loopK_next, Hand.cw]
    exact e
theorem count_run {h : Hand} (hh : h.Ok) {p : List Int} (hp : Psg p) (τ : Tau) : m_count_fingerings [h.d, iT p] τ = .ok (.int (if p = [] then 1 else h.many (stepsIn p))) τ := by
  have hl := hp.len
  by_cases e : p = []
  · subst e
    simp [m_count_fingerings, B_count_fingerings, check_both_run hh hp]
  · obtain ⟨z, ez⟩ := cnt_loop hh (x1 := .fz (iT p)) (x4 := .un) (x5 := .un) (x6 := .un) (τ := τ) (stepsIn p) (fun _ => 1) .un
    unfold cntB at ez
    have e0 := fDc_fing (j := 4) (fv := fC (.int 1)) (ρ := [.fz h.d, .fz (iT p), .un, .un, .un, .un, .un]) (τ := τ) (fun _ => 1) (by simp) (fun f _ => rfl)
    simp [m_count_fingerings, B_count_fingerings, check_both_run hh hp, e, e0, steps_in_run p (by omega)]
    rw [ez]
    simp [fVals, dicAt]
    rw [show (FING.map fun f => D.int (h.cw (stepsIn p) (fun _ => 1) f)) = (FING.map (h.cw (stepsIn p) fun _ => 1)).map .int by rw [List.map_map]; rfl, gSum_ints]
    rfl
/-! ### plain facts of the number -/
theorem sum_nn {k : Int → Int} (hk : ∀ f, 0 ≤ k f) : ∀ l : List Int, 0 ≤ (l.map k).sum
  | [] => by simp
  | a :: l => by have := sum_nn hk l; have := hk a; simp; omega
theorem sum_pos {k : Int → Int} (hk : ∀ f, 0 ≤ k f) : ∀ l : List Int, 0 < (l.map k).sum ↔ ∃ f ∈ l, 0 < k f
  | [] => by simp
  | a :: l => by
    have h1 := sum_nn hk l
    have h2 := hk a
    have ih := sum_pos hk l
    simp only [List.map_cons, List.sum_cons, List.mem_cons, exists_eq_or_imp]
    constructor
    · intro h
      by_cases c : 0 < k a
      · exact .inl c
      · exact .inr (ih.mp (by omega))
    · rintro (h | h)
      · omega
      · have := ih.mpr h; omega
theorem Hand.stepK_nn {h : Hand} {s : Int} {k : Int → Int} (hk : ∀ f, 0 ≤ k f) : ∀ o, 0 ≤ h.stepK s k o := fun o => sum_nn hk _
theorem Hand.cw_nn {h : Hand} : ∀ {p : List Int} {k : Int → Int}, (∀ f, 0 ≤ k f) → ∀ o, 0 ≤ h.cw p k o
  | [], _, hk, o => hk o
  | s :: p, k, hk, o => Hand.cw_nn (p := p) (Hand.stepK_nn hk) o
theorem Hand.cw_pos {h : Hand} : ∀ {p : List Int} {k : Int → Int}, (∀ f, 0 ≤ k f) → ∀ {o : Int}, Fg o → (0 < h.cw p k o ↔ ∃ f, Fg f ∧ 0 < k f ∧ h.Wk p f o)
  | [], k, hk, o, ho => by
    constructor
    · intro q; exact ⟨o, ho, q, rfl⟩
    · rintro ⟨f, _, q, w⟩; cases w; exact q
  | s :: p, k, hk, o, ho => by
    rw [Hand.cw, Hand.cw_pos (Hand.stepK_nn hk) ho]
    constructor
    · rintro ⟨f, hf, q, w⟩
      obtain ⟨g, hg, q2⟩ := (sum_pos hk _).mp q
      obtain ⟨hg, hs⟩ := List.mem_filter.mp hg
      exact ⟨g, fing_fg.mp hg, q2, f, hf, hs, w⟩
    · rintro ⟨g, hg, q, f, hf, hs, w⟩
      exact ⟨f, hf, (sum_pos hk _).mpr ⟨g, List.mem_filter.mpr ⟨fing_fg.mpr hg, hs⟩, q⟩, w⟩
theorem Hand.many_pos {h : Hand} {p : List Int} : 0 < h.many p ↔ h.Pl p := by
  unfold Hand.many
  rw [sum_pos (Hand.cw_nn fun _ => by decide)]
  constructor
  · rintro ⟨o, ho, q⟩
    obtain ⟨f, hf, _, w⟩ := (Hand.cw_pos (fun _ => by decide) (fing_fg.mp ho)).mp q
    exact ⟨f, o, hf, w⟩
  · rintro ⟨f, o, hf, w⟩
    have ho := w.fg hf
    exact ⟨o, fing_fg.mpr ho, (Hand.cw_pos (fun _ => by decide) ho).mpr ⟨f, hf, by decide, w⟩⟩
theorem Hand.many_nn {h : Hand} {p : List Int} : 0 ≤ h.many p := sum_nn (Hand.cw_nn fun _ => by decide) _
theorem Hand.cw_append {h : Hand} : ∀ (p q : List Int) (k : Int → Int), h.cw (p ++ q) k = h.cw q (h.cw p k)
  | [], q, k => rfl
  | s :: p, q, k => Hand.cw_append p q (h.stepK s k)
theorem sum_sub {k : Int → Int} (hk : ∀ f, 0 ≤ k f) (q : Int → Bool) : ∀ l : List Int, ((l.filter q).map k).sum ≤ (l.map k).sum
  | [] => by simp
  | a :: l => by
    have ih := sum_sub hk q l
    have := hk a
    rw [List.filter_cons]
    split <;> simp <;> omega
theorem sum_mem {k : Int → Int} (hk : ∀ f, 0 ≤ k f) : ∀ {l : List Int} {a : Int}, a ∈ l → k a ≤ (l.map k).sum
  | b :: l, a, h => by
    have := sum_nn hk l
    have := hk b
    rcases List.mem_cons.mp h with rfl | h
    · simp; omega
    · have := sum_mem hk h; simp; omega
/-- one note more, struck again -/
theorem Hand.many_snoc {h : Hand} (hh : h.Ok) (p : List Int) : h.many p ≤ h.many (p ++ [0]) ∧ h.many (p ++ [0]) ≤ 5 * h.many p := by
  have hk : ∀ f, 0 ≤ h.cw p (fun _ => 1) f := Hand.cw_nn fun _ => by decide
  unfold Hand.many
  rw [Hand.cw_append]
  show (FING.map _).sum ≤ (FING.map (h.stepK 0 (h.cw p fun _ => 1))).sum ∧ (FING.map (h.stepK 0 (h.cw p fun _ => 1))).sum ≤ _
  generalize h.cw p (fun _ => 1) = k at hk
  have lo : ∀ f ∈ FING, k f ≤ h.stepK 0 k f := fun f hf => sum_mem hk (List.mem_filter.mpr ⟨hf, by
    have := hh.hop0
    rw [Hand.st_self]
    simpa using this⟩)
  have hi : ∀ f, h.stepK 0 k f ≤ (FING.map k).sum := fun f => sum_sub hk _ _
  have l1 := lo 1 (by decide)
  have l2 := lo 2 (by decide)
  have l3 := lo 3 (by decide)
  have l4 := lo 4 (by decide)
  have l5 := lo 5 (by decide)
  have u1 := hi 1
  have u2 := hi 2
  have u3 := hi 3
  have u4 := hi 4
  have u5 := hi 5
  simp only [FING, List.map_cons, List.map_nil, List.sum_cons, List.sum_nil] at *
  constructor <;> omega
end KF
set_option maxHeartbeats 1000000
/-! KMH: the first fingering, where a passage gets stuck, fingers at places. -/
namespace KF
open L2
/-- the fingers from which steps can be played -/
def Hand.B (h : Hand) (q : List Int) : List Int := h.T FING (turnB q)
def Hand.Cn (h : Hand) (q : List Int) (g : Int) : Prop := ∃ f, Fg f ∧ h.Wk q g f
theorem Hand.mem_B {h : Hand} {q : List Int} {g : Int} : g ∈ h.B q ↔ Fg g ∧ h.Cn q g := by
  unfold Hand.B
  rw [Hand.mem_T fing_all]
  constructor
  · rintro ⟨f, hf, w⟩
    have ff := fing_fg.mp hf
    have := Hand.wk_back ff w
    rw [turnB_turnB] at this
    exact ⟨w.fg ff, f, ff, this⟩
  · rintro ⟨hg, f, hf, w⟩
    exact ⟨f, fing_fg.mpr hf, Hand.wk_back hg w⟩
theorem neg_map (l : List Int) : l.map (fun s => 0 - s) = l.map fun s => -s := by
  apply List.map_congr_left
  intro s _
  omega
theorem sets_back_run {h : Hand} (hh : h.Ok) {p : List Int} (hl : p.length < 1000) (τ : Tau) : m_sets_back [h.d, iL p] τ = .ok (iLL (h.along FING (turnB p)).reverse) τ := by
  have e1 : fLc (fItA (f1 revD (fBor 1))) (.name 2) (fun _ => M.ret true) (f2 gSub (fC (.int 0)) (fBor 2)) [2] [.fz h.d, .fz (iL p), .un] τ = .ok (iL (turnB p)) τ := by
    rw [fLc_all D.int p.reverse (fun s => .int (-s)) (by simp) (by simp [SZ]; omega) fun s _ => ⟨_, bindD_name _ _ _, by simp [wipeE]⟩]
    simp [turnB]
  simp [m_sets_back, B_sets_back, e1, sets_along_run hh (turnB p) (by rw [turnB_length]; omega) (d := iL (turnB p)) rfl]
theorem backs_get {h : Hand} {p : List Int} {i : Nat} (hi : i ≤ p.length) : (h.along FING (turnB p)).reverse[i]? = some (h.B (p.drop i)) := by
  have hl : (h.along FING (turnB p)).length = p.length + 1 := by rw [Hand.along_len, turnB_length]
  rw [List.getElem?_reverse (by omega), hl, Hand.along_get h _ _ _ (by rw [turnB_length]; omega)]
  unfold Hand.B
  congr 2
  have e : turnB p = turnB (p.drop i) ++ turnB (p.take i) := by rw [← turnB_append, List.take_append_drop]
  rw [e, List.take_append_of_le_length (by rw [turnB_length, List.length_drop]; omega), List.take_of_length_le (by rw [turnB_length, List.length_drop]; omega)]
/-- the first fingers from g on -/
def Hand.gr (h : Hand) : List Int → Int → List Int
  | [], g => [g]
  | s :: p, g => g :: Hand.gr h p (((h.af [g] s).filter fun o => decide (o ∈ h.B p)).headD 0)
theorem Hand.gr_next {h : Hand} {g s : Int} {p : List Int} (w : h.Cn (s :: p) g) : ∃ k r, ((h.af [g] s).filter fun o => decide (o ∈ h.B p)) = k :: r ∧ Fg k ∧ h.st g s k = true ∧ h.Cn p k := by
  obtain ⟨f, hf, k, hk, e, w⟩ := w
  have m : k ∈ (h.af [g] s).filter fun o => decide (o ∈ h.B p) := List.mem_filter.mpr ⟨Hand.mem_af1.mpr ⟨hk, e⟩, by simpa using Hand.mem_B.mpr ⟨hk, f, hf, w⟩⟩
  cases q : (h.af [g] s).filter fun o => decide (o ∈ h.B p) with
  | nil => rw [q] at m; cases m
  | cons k' r =>
    have m' : k' ∈ (h.af [g] s).filter fun o => decide (o ∈ h.B p) := by rw [q]; exact List.mem_cons_self
    obtain ⟨m1, m2⟩ := List.mem_filter.mp m'
    obtain ⟨a1, a2⟩ := Hand.mem_af1.mp m1
    exact ⟨k', r, rfl, a1, a2, (Hand.mem_B.mp (by simpa using m2)).2⟩
theorem Hand.gr_head (h : Hand) (p : List Int) (g : Int) : ∃ r, h.gr p g = g :: r := by
  cases p with
  | nil => exact ⟨[], rfl⟩
  | cons s p => exact ⟨_, rfl⟩
theorem Hand.gr_row {h : Hand} : ∀ {p : List Int} {g : Int}, Fg g → h.Cn p g → h.Row p (h.gr p g)
  | [], g, hg, w => hg
  | s :: p, g, hg, w => by
    obtain ⟨k, r, e, hk, st, w'⟩ := Hand.gr_next w
    have ih := Hand.gr_row hk w'
    obtain ⟨q, eq⟩ := h.gr_head p k
    rw [Hand.gr, e]
    simp only [List.headD_cons]
    rw [eq] at ih ⊢
    exact ⟨hg, st, ih⟩
def idx (k m : Nat) : List D := (List.range m).map fun (j : Nat) => D.int ((k + j : Nat) : Int)
theorem idx_succ (k m : Nat) : idx k (m + 1) = .int (k : Int) :: idx (k + 1) m := by
  unfold idx
  rw [List.range_succ_eq_map]
  simp only [List.map_cons, List.map_map, Nat.add_zero]
  congr 1
  apply List.map_congr_left
  intro j _
  simp only [Function.comp]
  congr 1
  omega
theorem rng_idx (n : Nat) (h : n ≤ 1000000) : rng1 [.int (n : Int)] = some (idx 0 n) := by
  rw [rng1_run n h]
  unfold upto idx
  rw [List.map_map]
  congr 1
  apply List.map_congr_left
  intro j _
  simp
theorem gSl_lastL (l : List Int) (g : Int) : gSl (iL (l ++ [g])) (some (-1)) none = some (iL [g]) := by
  show some (D.lst (cutD _ _ _)) = _
  unfold cutD
  rw [HT.sIx_none]
  have : HT.sIx (List.map D.int (l ++ [g])).length 0 (some (-1)) = l.length := by
    unfold HT.sIx
    simp
    omega
  rw [this]
  simp
def firstB : En → M Out := (fSeq (fIf (fB (f2 gEq (fBor 5) (fSz .lst fNil)))
    (fRet (fC .non))
    fNext)
    (fSeq (fApp 4 (f2 gIxA (fBor 5) (fC (.int 0))))
    (fIf (fB (f2 gLt (fBor 6) (fN gLen (fCons (fBor 1) fNil))))
    (fAsg (.name 5) (fLc (fItA (fCallM m_after_step 3 (fCons (fVar 0) (fCons (fSl (fBor 4) (fPart (f1 gNeg (fC (.int 1)))) fNoPart) (fCons (f2 gIxA (fBor 1) (fBor 6)) fNil))))) (.name 8) (fB (f2 gIn (fBor 8) (f2 gIxA (fBor 3) (f2 gAdd (fBor 6) (fC (.int 1)))))) (fVar 8) [8]))
    fNext)))
theorem firstB_last {h : Hand} {p : List Int} {x2 x7 x8 : Sl} {acc r : List Int} {k : Int} {R : D} {τ : Tau} (ha : acc.length < 1000) : firstB [.fz h.d, .fz (iL p), x2, .fz R, .ow (iL acc), .fz (iL (k :: r)), .fz (.int (p.length : Int)), x7, x8] τ =
    .ok (.next [.fz h.d, .fz (iL p), x2, .fz R, .ow (iL (acc ++ [k])), .fz (iL (k :: r)), .fz (.int (p.length : Int)), x7, x8]) τ := by
  have e1 : gEq (iL (k :: r)) (.lst []) = some (.bl false) := by rw [gEq_iL0]; rfl
  have e2 : gIxA (iL (k :: r)) (.int 0) = some (.int k) := gIxA_L0 _ _
  have e3 : acc.length < 1000000 := by omega
  simp only [firstB, fSeq_r, fIf_r, fB_r, f2_r, fBor_r, fSz_r, fNil_r, fC_r, fN_r, fCons_r, List.length_nil, SZ_eq, Nat.zero_le, if_true, List.getElem?_cons_zero, List.getElem?_cons_succ, opt_some_r, bd_ok, e1, toB_r, Bool.false_eq_true, if_false, fNext_r, seqK_next, fApp_r, Option.bind_some, lstOf_ow, e2, e3, List.set_cons_succ, List.set_cons_zero, gLen_lst, List.length_map, gLt_int, Int.lt_irrefl, decide_false]
  simp
theorem firstB_step {h : Hand} (hh : h.Ok) {p : List Int} (hl : p.length < 1000) {x2 x7 : Sl} {acc r : List Int} {k s : Int} {n : Nat} {τ : Tau} (ha : acc.length < 1000) (hk : Fg k) (hn : p[n]? = some s) : firstB [.fz h.d, .fz (iL p), x2, .fz (iLL (h.along FING (turnB p)).reverse), .ow (iL acc), .fz (iL (k :: r)), .fz (.int (n : Int)), x7, .un] τ =
    .ok (.next [.fz h.d, .fz (iL p), x2, .fz (iLL (h.along FING (turnB p)).reverse), .ow (iL (acc ++ [k])), .fz (iL ((h.af [k] s).filter fun o => decide (o ∈ h.B (p.drop (n + 1))))), .fz (.int (n : Int)), x7, .un]) τ := by
  have hnl : n < p.length := by
    obtain ⟨z, _⟩ := List.getElem?_eq_some_iff.mp hn
    exact z
  have e1 : gEq (iL (k :: r)) (.lst []) = some (.bl false) := by rw [gEq_iL0]; rfl
  have e2 : gIxA (iL (k :: r)) (.int 0) = some (.int k) := gIxA_L0 _ _
  have e3 : acc.length < 1000000 := by omega
  have e4 : ((n : Int) < (p.length : Int)) := by omega
  have e5 : gIxA (iL p) (.int (n : Int)) = some (.int s) := by rw [gIxA_lst, List.getElem?_map, hn]; rfl
  have e6 : (D.lst (List.map D.int acc ++ [D.int k])) = iL (acc ++ [k]) := by simp
  have eb : gIxA (iLL (h.along FING (turnB p)).reverse) (.int ((n : Int) + 1)) = some (iT (h.B (p.drop (n + 1)))) := by
    rw [show ((n : Int) + 1) = ((n + 1 : Nat) : Int) by omega, gIxA_lst, List.getElem?_map, backs_get (by omega)]
    rfl
  have ea := after_step_run hh (fs := [k]) (fun z hz => by rw [List.mem_singleton.mp hz]; exact hk) (by simp) (d := iL [k]) rfl s τ
  simp only [firstB, fSeq_r, fIf_r, fB_r, f2_r, fBor_r, fSz_r, fNil_r, fC_r, fN_r, fCons_r, List.length_nil, SZ_eq, Nat.zero_le, if_true, List.getElem?_cons_zero, List.getElem?_cons_succ, opt_some_r, bd_ok, e1, toB_r, Bool.false_eq_true, if_false, fNext_r, seqK_next, fApp_r, Option.bind_some, lstOf_ow, e2, e3, List.set_cons_succ, List.set_cons_zero, gLen_lst, List.length_map, gLt_int, e4, decide_true, fAsg_r, e6]
  rw [fLc_map D.int (h.af [k] s) (fun o => decide (o ∈ h.B (p.drop (n + 1)))) D.int ?h1 ?h2 ?h3]
  case h1 =>
    simp only [fItA_r, fCallM_r, fCons_r, fVar_r, fSl_r, fBor_r, fPart_r, f1_r, f2_r, fC_r, gNeg_int, fNoPart_r, fNil_r, opt_some_r, bd_ok, List.getElem?_cons_zero, List.getElem?_cons_succ, intD_int, gSl_lastL, List.length_cons, List.length_nil, if_true, e5, ea, items0_tup]
  case h2 => have := h.af_len [k] s; show _ ≤ 1000000; omega
  case h3 =>
    intro o ho
    refine ⟨_, bindD_name _ _ _, ?_, fun _ => by simp [wipeE]⟩
    simp only [wipeE, List.set_cons_succ, List.set_cons_zero, fB_r, f2_r, fBor_r, fC_r, opt_some_r, bd_ok, List.getElem?_cons_zero, List.getElem?_cons_succ, gAdd_int, eb, gIn_iT, toB_r]
  simp
theorem first_loop {h : Hand} (hh : h.Ok) {p : List Int} (hl : p.length < 900) {x2 x7 : Sl} {τ : Tau} : ∀ (q pre : List Int), p = pre ++ q → ∀ (acc : List Int) (k : Int) (r : List Int) (y6 : Sl), acc.length = pre.length → Fg k → h.Cn q k →
    ∃ w5 w6, loopF (.name 6) firstB (idx pre.length (q.length + 1)) [.fz h.d, .fz (iL p), x2, .fz (iLL (h.along FING (turnB p)).reverse), .ow (iL acc), .fz (iL (k :: r)), y6, x7, .un] τ
      = .ok (.next [.fz h.d, .fz (iL p), x2, .fz (iLL (h.along FING (turnB p)).reverse), .ow (iL (acc ++ h.gr q k)), w5, w6, x7, .un]) τ := by
  intro q
  induction q with
  | nil =>
    intro pre hp acc k r y6 ha hk hc
    have hpl : pre.length = p.length := by rw [hp]; simp
    refine ⟨.fz (iL (k :: r)), .fz (.int (pre.length : Int)), ?_⟩
    rw [List.length_nil, idx_succ]
    simp only [loopF_cons, bindD_name, opt_some_r, bd_ok, List.set_cons_succ, List.set_cons_zero, hpl, firstB_last (show acc.length < 1000 by omega), loopK_next]
    rfl
  | cons s q ih =>
    intro pre hp acc k r y6 ha hk hc
    obtain ⟨k', r', e, hk', st, hc'⟩ := Hand.gr_next hc
    have hpl : p.length = pre.length + (q.length + 1) := by rw [hp]; simp
    have hdr : p.drop (pre.length + 1) = q := by rw [hp, ← List.drop_drop]; simp
    have hn : p[pre.length]? = some s := by rw [hp]; simp
    obtain ⟨z5, z6, ez⟩ := ih (pre ++ [s]) (by rw [hp]; simp) (acc ++ [k]) k' r' (.fz (.int (pre.length : Int))) (by simp [ha]) hk' hc'
    refine ⟨z5, z6, ?_⟩
    rw [List.length_cons, idx_succ]
    have e7 := firstB_step hh (show p.length < 1000 by omega) (x2 := x2) (x7 := x7) (acc := acc) (r := r) (τ := τ) (show acc.length < 1000 by omega) hk hn
    rw [hdr, e] at e7
    simp only [loopF_cons, bindD_name, opt_some_r, bd_ok, List.set_cons_succ, List.set_cons_zero, e7, loopK_next]
    rw [List.length_append, List.length_singleton] at ez
    rw [ez, Hand.gr, e, List.headD_cons, show acc ++ k :: h.gr q k' = acc ++ [k] ++ h.gr q k' by simp]
def Hand.firstO (h : Hand) (p : List Int) : Option (List Int) := match FING.filter fun f => decide (f ∈ h.B p) with
  | [] => none
  | g :: _ => some (h.gr p g)
theorem fo_eb {h : Hand} {p : List Int} : gIxA (iLL (h.along FING (turnB p)).reverse) (.int 0) = some (iT (h.B p)) := by
  have := gIxA_lst ((h.along FING (turnB p)).reverse.map iT) 0
  rw [List.getElem?_map, backs_get (Nat.zero_le _), List.drop_zero] at this
  exact this
theorem fo_e2 {h : Hand} {p : List Int} {τ : Tau} : fLc (fItA (fVar 2)) (.name 7) (fB (f2 gIn (fBor 7) (f2 gIxA (fBor 3) (fC (.int 0))))) (fVar 7) [7] [.fz h.d, .fz (iL p), .fz (iT FING), .fz (iLL (h.along FING (turnB p)).reverse), .ow (.lst []), .un, .un, .un, .un] τ = .ok (iL (FING.filter fun f => decide (f ∈ h.B p))) τ := by
  rw [fLc_map D.int FING (fun f => decide (f ∈ h.B p)) D.int (by simp) (by decide) fun f _ => ⟨_, bindD_name _ _ _, ?_, fun _ => ?_⟩]
  · simp only [wipeE, List.set_cons_succ, List.set_cons_zero, fB_r, f2_r, fBor_r, fC_r, opt_some_r, bd_ok, List.getElem?_cons_zero, List.getElem?_cons_succ, fo_eb, gIn_iT, toB_r]
  · simp [wipeE]
theorem fo_er {p : List Int} (hl : p.length < 900) : rng1 [.int ((p.length : Int) + 1)] = some (idx 0 (p.length + 1)) := by
  have := rng_idx (p.length + 1) (by omega)
  rw [show ((p.length + 1 : Nat) : Int) = (p.length : Int) + 1 by omega] at this
  exact this
theorem fo_1 {h : Hand} (hh : h.Ok) {p : List Int} (hl : p.length < 900) (τ : Tau) : fParO 3 4 (fCallM m_sets_back 2 (fCons (fVar 0) (fCons (fVar 1) fNil))) (fSz .lst fNil) [.fz h.d, .fz (iL p), .fz (iT FING), .un, .un, .un, .un, .un, .un] τ = .ok (.next [.fz h.d, .fz (iL p), .fz (iT FING), .fz (iLL (h.along FING (turnB p)).reverse), .ow (.lst []), .un, .un, .un, .un]) τ := by
  have sb := sets_back_run hh (p := p) (by omega) τ
  simp [sb]
theorem fo_2 {h : Hand} {p : List Int} {τ : Tau} : fAsg (.name 5) (fLc (fItA (fVar 2)) (.name 7) (fB (f2 gIn (fBor 7) (f2 gIxA (fBor 3) (fC (.int 0))))) (fVar 7) [7]) [.fz h.d, .fz (iL p), .fz (iT FING), .fz (iLL (h.along FING (turnB p)).reverse), .ow (.lst []), .un, .un, .un, .un] τ = .ok (.next [.fz h.d, .fz (iL p), .fz (iT FING), .fz (iLL (h.along FING (turnB p)).reverse), .ow (.lst []), .fz (iL (FING.filter fun f => decide (f ∈ h.B p))), .un, .un, .un]) τ := by
  rw [fAsg_r, fo_e2]
  simp
theorem fo_3 {h : Hand} {p : List Int} (hl : p.length < 900) {x2 x3 x4 x5 x6 x7 x8 : Sl} {τ : Tau} : fFor (fRng rng1 (fCons (f2 gAdd (fN gLen (fCons (fBor 1) fNil)) (fC (.int 1))) fNil)) (.name 6) firstB [.fz h.d, .fz (iL p), x2, x3, x4, x5, x6, x7, x8] τ = loopF (.name 6) firstB (idx 0 (p.length + 1)) [.fz h.d, .fz (iL p), x2, x3, x4, x5, x6, x7, x8] τ := by
  have e1 : gLen [iL p] = some (.int (p.length : Int)) := by rw [gLen_lst, List.length_map]
  have e2 : (fCons (f2 gAdd (fN gLen (fCons (fBor 1) fNil)) (fC (.int 1))) fNil) [.fz h.d, .fz (iL p), x2, x3, x4, x5, x6, x7, x8] τ = .ok [.int ((p.length : Int) + 1)] τ := by
    rw [fCons_r, f2_r, fN_r, fCons_r, fBor_r]
    simp only [List.getElem?_cons_succ, List.getElem?_cons_zero, opt_some_r, bd_ok, fNil_r]
    rw [e1]
    rfl
  rw [fFor_r, fRng_r, e2, bd_ok, fo_er hl]
  rfl
def B_fo : Fs := fun _ => fSeq (fParO 3 4 (fCallM m_sets_back 2 (fCons (fVar 0) (fCons (fVar 1) fNil))) (fSz .lst fNil)) (fSeq (fAsg (.name 5) (fLc (fItA (fVar 2)) (.name 7) (fB (f2 gIn (fBor 7) (f2 gIxA (fBor 3) (fC (.int 0))))) (fVar 7) [7])) (fSeq (fFor (fRng rng1 (fCons (f2 gAdd (fN gLen (fCons (fBor 1) fNil)) (fC (.int 1))) fNil)) (.name 6) firstB) (fRet (fN gTuple (fCons (fBor 4) fNil)))))
theorem fo_eq : m_first_of = mOf B_fo 9 := rfl
theorem fo_st {h : Hand} (hh : h.Ok) {p : List Int} (hl : p.length < 900) (τ : Tau) : m_first_of [h.d, iL p, iT FING] τ = ((loopF (.name 6) firstB (idx 0 (p.length + 1)) [.fz h.d, .fz (iL p), .fz (iT FING), .fz (iLL (h.along FING (turnB p)).reverse), .ow (.lst []), .fz (iL (FING.filter fun f => decide (f ∈ h.B p))), .un, .un, .un] τ).bd fun o t => seqK (fRet (fN gTuple (fCons (fBor 4) fNil))) o t).bd fun o t => outD o t := by
  rw [fo_eq, mOf_r]
  show (B_fo FUEL [.fz h.d, .fz (iL p), .fz (iT FING), .un, .un, .un, .un, .un, .un] τ).bd _ = _
  unfold B_fo
  rw [fSeq_r, fo_1 hh hl, bd_ok, seqK_next, fSeq_r, fo_2, bd_ok, seqK_next, fSeq_r, fo_3 hl]
theorem first_of_run {h : Hand} (hh : h.Ok) {p : List Int} (hl : p.length < 900) (τ : Tau) : m_first_of [h.d, iL p, iT FING] τ = .ok (optT (h.firstO p)) τ := by
  rw [fo_st hh hl]
  unfold Hand.firstO
  cases q : FING.filter fun f => decide (f ∈ h.B p) with
  | nil =>
    rw [idx_succ]
    simp [firstB, optT]
  | cons g r =>
    have m : g ∈ FING.filter fun f => decide (f ∈ h.B p) := by rw [q]; exact List.mem_cons_self
    obtain ⟨m1, m2⟩ := List.mem_filter.mp m
    obtain ⟨hg, hc⟩ := Hand.mem_B.mp (of_decide_eq_true m2)
    obtain ⟨w5, w6, e⟩ := first_loop hh hl (x2 := .fz (iT FING)) (x7 := .un) (τ := τ) p [] rfl [] g r .un rfl hg hc
    rw [List.length_nil, show iL ([] : List Int) = D.lst [] from rfl] at e
    rw [e]
    simp [optT]
theorem Hand.firstO_none {h : Hand} {p : List Int} : h.firstO p = none ↔ ¬ h.Pl p := by
  unfold Hand.firstO
  cases q : FING.filter fun f => decide (f ∈ h.B p) with
  | nil =>
    simp only [true_iff]
    rintro ⟨f, g, hf, w⟩
    have : f ∈ FING.filter fun f => decide (f ∈ h.B p) := List.mem_filter.mpr ⟨fing_fg.mpr hf, by simpa using Hand.mem_B.mpr ⟨hf, g, w.fg hf, w⟩⟩
    rw [q] at this
    cases this
  | cons g r =>
    have m : g ∈ FING.filter fun f => decide (f ∈ h.B p) := by rw [q]; exact List.mem_cons_self
    obtain ⟨m1, m2⟩ := List.mem_filter.mp m
    obtain ⟨hg, f, hf, w⟩ := Hand.mem_B.mp (of_decide_eq_true m2)
    simp only [reduceCtorEq, false_iff, Classical.not_not]
    exact ⟨g, f, hg, w⟩
theorem Hand.firstO_row {h : Hand} {p r : List Int} (e : h.firstO p = some r) : h.Row p r := by
  unfold Hand.firstO at e
  split at e
  · cases e
  · rename_i g r' q
    cases e
    have m : g ∈ FING.filter fun f => decide (f ∈ h.B p) := by rw [q]; exact List.mem_cons_self
    obtain ⟨m1, m2⟩ := List.mem_filter.mp m
    obtain ⟨hg, hc⟩ := Hand.mem_B.mp (of_decide_eq_true m2)
    exact Hand.gr_row hg hc
/-- the first fingering of a passage -/
def Hand.ff (h : Hand) (p : List Int) : Option (List Int) := if p = [] then some [] else h.firstO (stepsIn p)
theorem first_fingering_run {h : Hand} (hh : h.Ok) {p : List Int} (hp : Psg p) (τ : Tau) : m_first_fingering [h.d, iT p] τ = .ok (optT (h.ff p)) τ := by
  have hl := hp.len
  have hs := stepsIn_len p
  by_cases e : p = []
  · subst e
    simp [m_first_fingering, B_first_fingering, check_both_run hh hp, Hand.ff, optT]
  · simp [m_first_fingering, B_first_fingering, check_both_run hh hp, Hand.ff, e, steps_in_run p (by omega), c_fing, first_of_run hh (p := stepsIn p) (by omega)]
/-! ### where it gets stuck -/
def encE (x : List Int × Nat) : D := .tup [.int (x.2 : Nat), iT x.1]
theorem enumA_iLL (l : List (List Int)) : enumA [iLL l] = some ((l.zipIdx).map encE) := by
  show some (List.map _ ((l.map iT).zipIdx)) = _
  rw [List.zipIdx_map]
  simp [encE, Function.comp_def]
def stG (x : List Int × Nat) : Option Nat := if x.1 = [] then some (x.2 + 1) else none
def Hand.stuckO (h : Hand) (p : List Int) : Option Nat := ((h.along FING p).zipIdx).findSome? stG
def optN : Option Nat → D
  | none => .non
  | some n => .int n
theorem stuck_at_run {h : Hand} (hh : h.Ok) {p : List Int} (hp : Psg p) (τ : Tau) : m_stuck_at [h.d, iT p] τ = .ok (optN (h.stuckO (stepsIn p))) τ := by
  have hl := hp.len
  have hs := stepsIn_len p
  simp [m_stuck_at, B_stuck_at, check_both_run hh hp, steps_in_run p (by omega), sets_along_run hh (stepsIn p) (by omega) (d := iL (stepsIn p)) rfl, enumA_iLL]
  have key := loop_find (t := .tup [(.name 2), (.name 3)]) (τ := τ) (body := (fIf (fB (f2 gEq (fBor 3) (fSz .tup fNil)))
    (fRet (f2 gAdd (fBor 2) (fC (.int 1))))
    fNext)) encE (fun x => if x.1 = [] then some (.int ((x.2 : Int) + 1)) else none) (fun ρ => ∃ a b, ρ = [.fz h.d, .fz (iT p), a, b]) ((h.along FING (stepsIn p)).zipIdx) (ρ := [.fz h.d, .fz (iT p), .un, .un]) ⟨_, _, rfl⟩ ?_
  · have hc : optN (h.stuckO (stepsIn p)) = (((h.along FING (stepsIn p)).zipIdx).findSome? fun x => if x.1 = [] then some (.int ((x.2 : Int) + 1)) else none).getD .non := by
      have : (fun x : List Int × Nat => if x.1 = [] then some (D.int ((x.2 : Int) + 1)) else none) = fun x => (stG x).map fun (n : Nat) => D.int (n : Int) := by
        funext x
        unfold stG
        split <;> rfl
      rw [this, fs_map]
      unfold Hand.stuckO
      cases ((h.along FING (stepsIn p)).zipIdx).findSome? stG <;> rfl
    rcases key with ⟨e, ρ2, e2, x, y, rfl⟩ | ⟨v, e, e2⟩
    · rw [e2, hc, e]; rfl
    · rw [e2, hc, e]; rfl
  · rintro ⟨l, n⟩ hm _ ⟨a, b, rfl⟩
    refine ⟨_, by simp [encE]; rfl, ?_⟩
    by_cases z : l = []
    · right
      subst z
      refine ⟨_, if_pos rfl, ?_⟩
      simp
    · left
      refine ⟨if_neg z, [.fz h.d, .fz (iT p), .fz (.int (n : Int)), .fz (iT l)], ?_, _, _, rfl⟩
      simp [z]
theorem find_zip {α : Type} {l : List α} {q : α → Prop} [DecidablePred q] : ∀ {k : Nat},
    (((l.zipIdx k).findSome? fun x => if q x.1 then some (x.2 + 1) else none) = none ↔ ∀ x ∈ l, ¬ q x) ∧
    (∀ n, ((l.zipIdx k).findSome? fun x => if q x.1 then some (x.2 + 1) else none) = some n ↔ ∃ i a, n = k + i + 1 ∧ l[i]? = some a ∧ q a ∧ ∀ j b, j < i → l[j]? = some b → ¬ q b) := by
  induction l with
  | nil => intro k; simp
  | cons a l ih =>
    intro k
    rw [List.zipIdx_cons, List.findSome?_cons]
    by_cases c : q a
    · simp only [c, if_true]
      refine ⟨by simp [c], fun n => ?_⟩
      constructor
      · intro e
        cases e
        exact ⟨0, a, rfl, rfl, c, fun j b hj => by omega⟩
      · rintro ⟨i, b, e, h1, h2, h3⟩
        cases i with
        | zero => rw [e]
        | succ i => exact (h3 0 a (by omega) rfl c).elim
    · simp only [c, if_false]
      have ih := ih (k := k + 1)
      refine ⟨?_, fun n => ?_⟩
      · rw [ih.1]
        simp [c]
      · rw [ih.2]
        constructor
        · rintro ⟨i, b, e, h1, h2, h3⟩
          refine ⟨i + 1, b, by omega, by simpa using h1, h2, fun j b' hj hb => ?_⟩
          cases j with
          | zero => have : a = b' := by simpa using hb
                    rw [← this]; exact c
          | succ j => exact h3 j b' (by omega) (by simpa using hb)
        · rintro ⟨i, b, e, h1, h2, h3⟩
          cases i with
          | zero =>
            have : a = b := by simpa using h1
            rw [← this] at h2
            exact (c h2).elim
          | succ i => exact ⟨i, b, by omega, by simpa using h1, h2, fun j b' hj hb => h3 (j + 1) b' (by omega) (by simpa using hb)⟩
theorem Hand.T_nil {h : Hand} (q : List Int) : h.T [] q = [] := by
  induction q with
  | nil => rfl
  | cons s q ih => show h.T (h.af [] s) q = []; rw [show h.af [] s = [] by simp [Hand.af]]; exact ih
theorem Hand.stuckO_none {h : Hand} {p : List Int} : h.stuckO p = none ↔ h.Pl p := by
  unfold Hand.stuckO stG
  rw [(find_zip (q := fun l : List Int => l = [])).1, ← Hand.T_ne]
  constructor
  · intro z
    obtain ⟨l, e⟩ := h.along_last p FING
    exact z _ (by rw [e]; simp)
  · intro z x hx
    obtain ⟨i, hi, e⟩ := List.mem_iff_getElem.mp hx
    rw [Hand.along_len] at hi
    have := h.along_get p FING i (by omega)
    rw [List.getElem?_eq_getElem (by rw [Hand.along_len]; exact hi), e] at this
    cases this
    intro y
    apply z
    rw [← List.take_append_drop i p, Hand.T_append, y, Hand.T_nil]
theorem Hand.stuckO_some {h : Hand} {p : List Int} {n : Nat} : h.stuckO p = some n ↔ ∃ i, n = i + 1 ∧ i ≤ p.length ∧ ¬ h.Pl (p.take i) ∧ ∀ j, j < i → h.Pl (p.take j) := by
  unfold Hand.stuckO stG
  rw [(find_zip (q := fun l : List Int => l = [])).2]
  constructor
  · rintro ⟨i, a, e, h1, h2, h3⟩
    obtain ⟨hi, _⟩ := List.getElem?_eq_some_iff.mp h1
    rw [Hand.along_len] at hi
    rw [h.along_get p FING i (by omega)] at h1
    cases h1
    refine ⟨i, by omega, by omega, fun z => Hand.T_ne.mpr z h2, fun j hj => ?_⟩
    exact Hand.T_ne.mp (h3 j _ hj (h.along_get p FING j (by omega)))
  · rintro ⟨i, e, hi, h1, h2⟩
    refine ⟨i, _, by omega, h.along_get p FING i hi, ?_, fun j b hj hb => ?_⟩
    · by_cases z : h.T FING (p.take i) = []
      · exact z
      · exact (h1 (Hand.T_ne.mp z)).elim
    · rw [h.along_get p FING j (by omega)] at hb
      cases hb
      exact Hand.T_ne.mpr (h2 j hj)
/-! ### fingers at places -/
def Hand.at (h : Hand) (p : List Int) (i : Nat) : List Int := (h.T FING (p.take i)).filter fun f => decide (f ∈ h.B (p.drop i))
theorem Hand.mem_at {h : Hand} {p : List Int} {i : Nat} {g : Int} : g ∈ h.at p i ↔ Fg g ∧ (∃ f, Fg f ∧ h.Wk (p.take i) f g) ∧ h.Cn (p.drop i) g := by
  unfold Hand.at
  rw [List.mem_filter, Hand.mem_T fing_all]
  constructor
  · rintro ⟨⟨f, hf, w⟩, m⟩
    obtain ⟨hg, hc⟩ := Hand.mem_B.mp (of_decide_eq_true m)
    exact ⟨hg, ⟨f, fing_fg.mp hf, w⟩, hc⟩
  · rintro ⟨hg, ⟨f, hf, w⟩, hc⟩
    exact ⟨⟨f, fing_fg.mpr hf, w⟩, decide_eq_true (Hand.mem_B.mpr ⟨hg, hc⟩)⟩
theorem fingers_at_run {h : Hand} (hh : h.Ok) {p : List Int} (hp : Psg p) {i : Nat} (hi : i < p.length) (τ : Tau) : m_fingers_at [h.d, iT p, .int (i : Int)] τ = .ok (iT (h.at (stepsIn p) i)) τ := by
  have hl := hp.len
  have hs := stepsIn_len p
  have e1 : gIxA (iLL (h.along FING (stepsIn p))) (.int (i : Int)) = some (iT (h.T FING ((stepsIn p).take i))) := by
    rw [gIxA_lst, List.getElem?_map, h.along_get _ _ _ (by omega)]; rfl
  have e2 : gIxA (iLL (h.along FING (turnB (stepsIn p))).reverse) (.int (i : Int)) = some (iT (h.B ((stepsIn p).drop i))) := by
    rw [gIxA_lst, List.getElem?_map, backs_get (by omega)]; rfl
  have e4 : fLc (fItA (fVar 4)) (.name 6) (fB (f2 gIn (fBor 6) (fBor 5))) (fVar 6) [6] [.fz h.d, .fz (iT p), .fz (.int (i : Int)), .fz (iL (stepsIn p)), .fz (iT (h.T FING ((stepsIn p).take i))), .fz (iT (h.B ((stepsIn p).drop i))), .un] τ = .ok (iL (h.at (stepsIn p) i)) τ := by
    have tl := Hand.T_len (h := h) (p := (stepsIn p).take i) fing_le
    rw [fLc_map D.int (h.T FING ((stepsIn p).take i)) (fun f => decide (f ∈ h.B ((stepsIn p).drop i))) D.int (by simp) (by show _ ≤ 1000000; omega) fun f _ => ⟨_, bindD_name _ _ _, ?_, fun _ => ?_⟩]
    · rfl
    · simp only [wipeE, List.set_cons_succ, List.set_cons_zero, fB_r, f2_r, fBor_r, opt_some_r, bd_ok, List.getElem?_cons_zero, List.getElem?_cons_succ, gIn_iT, toB_r]
    · simp [wipeE]
  have e5 : decide ((i : Int) ≤ (p.length : Int) - 1) = true := by simp; omega
  simp [m_fingers_at, B_fingers_at, check_both_run hh hp, is_between_run, e5, steps_in_run p (by omega), sets_along_run hh (stepsIn p) (by omega) (d := iL (stepsIn p)) rfl, sets_back_run hh (p := stepsIn p) (by omega), e1, e2, e4]
/-! ### blocks -/
theorem loop_satD {β : Type} {t : Tg} {body : En → M Out} (I : En → Tau → Prop) (l : List D) {ρ : En} {τ : Tau} {k : Out → Tau → Res β} {Q : β → Tau → Prop} (h0 : I ρ τ)
    (st : ∀ d ∈ l, ∀ ρ τ, I ρ τ → ∃ ρ1, bindD t d ρ = some ρ1 ∧ (body ρ1 τ).sat fun o τ' => ∃ ρ2, o = .next ρ2 ∧ I ρ2 τ')
    (h1 : ∀ ρ' τ', I ρ' τ' → (k (.next ρ') τ').sat Q) : ((loopF t body l ρ τ).bd k).sat Q := by
  have := loop_sat0 (fun d : D => d) I l h0 st h1
  rwa [List.map_id'] at this
def Goes (I : En → Tau → Prop) (f : En → M Out) : Prop := ∀ ρ τ, I ρ τ → (f ρ τ).sat fun o τ' => ∃ ρ', o = .next ρ' ∧ I ρ' τ'
theorem Goes.seq {I : En → Tau → Prop} {f g : En → M Out} (a : Goes I f) (b : Goes I g) : Goes I (fSeq f g) := fun ρ τ h => by
  rw [fSeq_r]
  refine sat_bd (sat_imp (a ρ τ h) ?_)
  rintro _ τ' ⟨ρ', rfl, h'⟩
  rw [seqK_next]
  exact b ρ' τ' h'
theorem Goes.loop {I : En → Tau → Prop} {fi : En → M (List D)} {t : Tg} {body : En → M Out} (l : List D) (h0 : ∀ ρ τ, I ρ τ → fi ρ τ = .ok l τ)
    (st : ∀ d ∈ l, ∀ ρ τ, I ρ τ → ∃ ρ1, bindD t d ρ = some ρ1 ∧ (body ρ1 τ).sat fun o τ' => ∃ ρ2, o = .next ρ2 ∧ I ρ2 τ') : Goes I (fFor fi t body) := fun ρ τ h => by
  rw [fFor_r, h0 ρ τ h, bd_ok]
  have := loop_satD (k := fun o t => Res.ok o t) (Q := fun o τ' => ∃ ρ', o = .next ρ' ∧ I ρ' τ') I l h st (fun ρ' τ' h' => ⟨ρ', rfl, h'⟩)
  rwa [bd_ret] at this
theorem sat_of {α : Type} {r : Res α} {a : α} {t : Tau} {Q : α → Tau → Prop} (e : r = .ok a t) (h : Q a t) : r.sat Q := by rw [e]; exact h
/-! ### passages and their steps -/
def Hand.plB (h : Hand) (p : List Int) : Bool := !decide (h.T FING p = [])
theorem Hand.plB_iff {h : Hand} {p : List Int} : h.plB p = true ↔ h.Pl p := by rw [← Hand.T_ne]; simp [Hand.plB]
theorem Hand.pl_nil {h : Hand} : h.Pl [] := ⟨1, 1, by decide, rfl⟩
def Hand.mny (h : Hand) (p : List Int) : Int := if p = [] then 1 else h.many (stepsIn p)
theorem Hand.mny_pos {h : Hand} {p : List Int} : decide (0 < h.mny p) = h.plB (stepsIn p) := by
  rw [Bool.eq_iff_iff, decide_eq_true_eq, Hand.plB_iff]
  unfold Hand.mny
  split
  · rename_i e
    subst e
    simp [Hand.pl_nil]
  · exact Hand.many_pos
theorem Hand.ff_non {h : Hand} {p : List Int} : isNon (optT (h.ff p)) = !h.plB (stepsIn p) := by
  rw [isNon_optT]
  unfold Hand.ff
  split
  · rename_i e
    subst e
    have := Hand.plB_iff.mpr (Hand.pl_nil (h := h))
    simp [this]
  · cases q : h.firstO (stepsIn p) with
    | none =>
      have := Hand.firstO_none.mp q
      rw [← Hand.plB_iff] at this
      simpa using this
    | some r =>
      have : ¬ ¬ h.Pl (stepsIn p) := fun z => by rw [Hand.firstO_none.mpr z] at q; cases q
      have := Hand.plB_iff.mpr (Classical.not_not.mp this)
      simp [this]
theorem Hand.stuck_non {h : Hand} {p : List Int} : isNon (optN (h.stuckO p)) = h.plB p := by
  cases q : h.stuckO p with
  | none =>
    have := Hand.plB_iff.mpr (Hand.stuckO_none.mp q)
    rw [this]
    rfl
  | some n =>
    have : ¬ h.Pl p := fun z => by rw [Hand.stuckO_none.mpr z] at q; cases q
    rw [← Hand.plB_iff] at this
    have e : h.plB p = false := by simpa using this
    rw [e]
    rfl
theorem Hand.ff_row {h : Hand} {p r : List Int} (n : p ≠ []) (e : h.ff p = some r) : h.Row (stepsIn p) r := by
  unfold Hand.ff at e
  rw [if_neg n] at e
  exact Hand.firstO_row e
theorem Hand.ff_len {h : Hand} {p r : List Int} (e : h.ff p = some r) : r.length = p.length := by
  by_cases n : p = []
  · subst n
    unfold Hand.ff at e
    rw [if_pos rfl] at e
    cases e
    rfl
  · have := (Hand.ff_row n e).len
    rw [stepsIn_len] at this
    have : 0 < p.length := List.length_pos_iff.mpr n
    omega
theorem fingB_of {h : Hand} {p r : List Int} (l : r.length = p.length) (x : p ≠ [] → h.Row (stepsIn p) r) : (decide (r.length = p.length) && (fgB r && h.play (stepsIn p) r)) = true := by
  by_cases n : p = []
  · subst n
    have : r = [] := List.length_eq_zero_iff.mp l
    subst this
    rfl
  · obtain ⟨_, h1, h2⟩ := Hand.row_iff.mp (x n)
    simp [l, fgB_iff.mpr h1, h2]
theorem stepsIn_take : ∀ (p : List Int) (n : Nat), stepsIn (p.take (n + 1)) = (stepsIn p).take n
  | [], n => by simp
  | [a], n => by simp
  | a :: b :: p, 0 => by simp
  | a :: b :: p, n + 1 => by
    have ih := stepsIn_take (b :: p) n
    rw [List.take_succ_cons] at ih
    rw [List.take_succ_cons, List.take_succ_cons, stepsIn_cons, stepsIn_cons, List.take_succ_cons, ih]
theorem stepsIn_drop : ∀ (p : List Int) (n : Nat), stepsIn (p.drop n) = (stepsIn p).drop n
  | p, 0 => rfl
  | [], n + 1 => by simp
  | [a], n + 1 => by simp
  | a :: b :: p, n + 1 => by
    rw [List.drop_succ_cons, stepsIn_cons, List.drop_succ_cons]
    exact stepsIn_drop (b :: p) n
theorem stepsIn_snoc : ∀ (p : List Int) (a b : Int), stepsIn (p ++ [a] ++ [b]) = stepsIn (p ++ [a]) ++ [b - a]
  | [], a, b => rfl
  | [c], a, b => rfl
  | c :: d :: p, a, b => by
    have ih := stepsIn_snoc (d :: p) a b
    rw [List.cons_append, List.cons_append] at ih
    show stepsIn (c :: d :: (p ++ [a] ++ [b])) = stepsIn (c :: d :: (p ++ [a])) ++ [b - a]
    rw [stepsIn_cons, stepsIn_cons, ih]
    rfl
theorem Psg.sub {p q : List Int} (hp : Psg p) (l : q.length ≤ p.length) (s : ∀ x ∈ q, x ∈ p) : Psg q := ⟨by have := hp.len; omega, fun x hx => hp.nt x (s x hx)⟩
theorem Psg.take {p : List Int} (hp : Psg p) (n : Nat) : Psg (p.take n) := hp.sub (by rw [List.length_take]; omega) fun x hx => List.mem_of_mem_take hx
theorem Psg.drop {p : List Int} (hp : Psg p) (n : Nat) : Psg (p.drop n) := hp.sub (by rw [List.length_drop]; omega) fun x hx => List.mem_of_mem_drop hx
theorem Hand.Pl.take {h : Hand} {p : List Int} (x : h.Pl p) (n : Nat) : h.Pl (p.take n) := by
  rw [← List.take_append_drop n p] at x
  exact Hand.pl_left x
theorem Hand.Pl.drop {h : Hand} {p : List Int} (x : h.Pl p) (n : Nat) : h.Pl (p.drop n) := by
  rw [← List.take_append_drop n p] at x
  exact Hand.pl_right x
theorem Hand.Pl.mem {h : Hand} (hh : h.Ok) {p : List Int} (x : h.Pl p) {s : Int} (m : s ∈ p) : s ∈ h.steps := by
  obtain ⟨f, g, hf, w⟩ := x
  induction p generalizing f with
  | nil => cases m
  | cons a p ih =>
    obtain ⟨k, hk, e, w⟩ := w
    rcases List.mem_cons.mp m with rfl | m
    · exact Hand.mem_steps.mpr ⟨st_bound hh hf hk e, f, k, hf, hk, e⟩
    · exact ih m k hk w
theorem Hand.row_mid {h : Hand} : ∀ {i : Nat} {p r : List Int} {f g : Int}, h.Row p (f :: r) → (f :: r)[i]? = some g → i ≤ p.length ∧ Fg g ∧ h.Wk (p.take i) f g ∧ h.Cn (p.drop i) g
  | 0, p, r, f, g, x, e => by
    have e : f = g := by simpa using e
    subst e
    obtain ⟨l, k, _, hk, w⟩ := x.wk
    exact ⟨Nat.zero_le _, x.fg f List.mem_cons_self, rfl, k, hk, w⟩
  | i + 1, [], [], f, g, x, e => by simp at e
  | i + 1, [], b :: r, f, g, x, e => x.elim
  | i + 1, s :: p, [], f, g, x, e => x.elim
  | i + 1, s :: p, b :: r, f, g, x, e => by
    obtain ⟨hf, st, x'⟩ := x
    obtain ⟨h1, h2, h3, h4⟩ := Hand.row_mid (i := i) x' (by simpa using e)
    refine ⟨by simp; omega, h2, ?_, h4⟩
    rw [List.take_succ_cons]
    exact ⟨b, x'.fg b List.mem_cons_self, st, h3⟩
theorem Hand.row_at {h : Hand} {p r : List Int} {i : Nat} {g : Int} (x : h.Row p r) (e : r[i]? = some g) : g ∈ h.at p i := by
  cases r with
  | nil => simp at e
  | cons f r =>
    obtain ⟨_, h2, h3, h4⟩ := Hand.row_mid x e
    exact Hand.mem_at.mpr ⟨h2, ⟨f, x.fg f List.mem_cons_self, h3⟩, h4⟩
theorem Hand.at_ne {h : Hand} {p : List Int} {i : Nat} : (!decide (h.at p i = [])) = h.plB p := by
  rw [Bool.eq_iff_iff, Hand.plB_iff, Bool.not_eq_true', decide_eq_false_iff_not]
  constructor
  · intro n
    obtain ⟨g, hg⟩ := List.exists_mem_of_ne_nil _ n
    obtain ⟨h1, ⟨f, hf, w1⟩, k, hk, w2⟩ := Hand.mem_at.mp hg
    refine ⟨f, k, hf, ?_⟩
    rw [← List.take_append_drop i p]
    exact Hand.wk_append.mpr ⟨g, w1, w2⟩
  · rintro ⟨f, k, hf, w⟩
    rw [← List.take_append_drop i p] at w
    obtain ⟨g, w1, w2⟩ := Hand.wk_append.mp w
    exact List.ne_nil_of_mem (Hand.mem_at.mpr ⟨w1.fg hf, ⟨f, hf, w1⟩, k, w2.fg (w1.fg hf), w2⟩)
theorem gSl_both (l : List Int) (b e : Nat) : gSl (iT l) (some (b : Int)) (some (e : Int)) = some (iT ((l.take e).drop b)) := by
  show some (D.tup (cutD _ _ _)) = _
  unfold cutD
  rw [HT.sIx_nat, HT.sIx_nat, List.length_map]
  congr 2
  rw [List.map_drop, List.map_take]
  have hm : (l.map D.int).length = l.length := List.length_map ..
  generalize l.map D.int = m at hm
  rw [← hm, List.drop_take]
  apply List.ext_getElem?
  intro i
  rw [List.getElem?_take, List.getElem?_drop, List.getElem?_take, List.getElem?_drop]
  by_cases c1 : b ≤ m.length
  · rw [Nat.min_eq_left c1]
    by_cases c2 : e ≤ m.length
    · rw [Nat.min_eq_left c2]
    · rw [Nat.min_eq_right (by omega)]
      by_cases c3 : i < m.length - b
      · rw [if_pos c3, if_pos (by omega)]
      · rw [if_neg c3, List.getElem?_eq_none (by omega)]
        split <;> rfl
  · rw [show min b m.length = m.length from Nat.min_eq_right (by omega), List.getElem?_eq_none (l := m) (i := m.length + i) (by omega), List.getElem?_eq_none (l := m) (i := b + i) (by omega)]
    split <;> split <;> rfl
end KF
set_option maxHeartbeats 1000000
/-! KMI: all fingerings listed. -/
namespace KF
open L2
theorem snocI : ∀ {l : List Int}, l ≠ [] → ∃ u v, l = u ++ [v]
  | [], n => (n rfl).elim
  | [a], _ => ⟨[], a, rfl⟩
  | a :: b :: l, _ => by
    obtain ⟨u, v, e⟩ := snocI (l := b :: l) (by simp)
    exact ⟨a :: u, v, by rw [e]; rfl⟩
/-! ### rows that go on from a finger -/
def Hand.rf (h : Hand) : List Int → Int → List (List Int)
  | [], _ => [[]]
  | s :: p, g => (h.af [g] s).flatMap fun k => (Hand.rf h p k).map fun t => k :: t
theorem Hand.mem_rf {h : Hand} : ∀ {p t : List Int} {g : Int}, Fg g → (t ∈ h.rf p g ↔ h.Row p (g :: t))
  | [], t, g, hg => by
    rw [Hand.rf, List.mem_singleton]
    cases t with
    | nil => exact ⟨fun _ => hg, fun _ => rfl⟩
    | cons a t => exact ⟨fun z => (by cases z), fun z => z.elim⟩
  | s :: p, t, g, hg => by
    rw [Hand.rf, List.mem_flatMap]
    constructor
    · rintro ⟨k, hk, ht⟩
      obtain ⟨u, hu, rfl⟩ := List.mem_map.mp ht
      obtain ⟨h1, h2⟩ := Hand.mem_af1.mp hk
      exact ⟨hg, h2, (Hand.mem_rf h1).mp hu⟩
    · intro x
      cases t with
      | nil => exact x.elim
      | cons k u =>
        obtain ⟨_, st, x⟩ := x
        have hk := x.fg k List.mem_cons_self
        exact ⟨k, Hand.mem_af1.mpr ⟨hk, st⟩, List.mem_map.mpr ⟨u, (Hand.mem_rf hk).mpr x, rfl⟩⟩
theorem flatMap_filter {α β : Type} {f : α → List β} {q : α → Bool} : ∀ {l : List α}, (∀ a ∈ l, q a = false → f a = []) → l.flatMap f = (l.filter q).flatMap f
  | [], _ => rfl
  | a :: l, h => by
    have ih := flatMap_filter (l := l) fun b hb => h b (List.mem_cons_of_mem _ hb)
    rw [List.flatMap_cons, List.filter_cons]
    cases c : q a with
    | true => rw [if_pos rfl, List.flatMap_cons, ih]
    | false => rw [if_neg (by simp), h a List.mem_cons_self c, List.nil_append, ih]
theorem Hand.rf_head {h : Hand} : ∀ {p : List Int} {g : Int}, Fg g → (h.Cn p g → ∃ t r, h.rf p g = t :: r ∧ g :: t = h.gr p g) ∧ (¬ h.Cn p g → h.rf p g = [])
  | [], g, hg => ⟨fun _ => ⟨[], [], rfl, rfl⟩, fun n => (n ⟨g, hg, rfl⟩).elim⟩
  | s :: p, g, hg => by
    have e : h.rf (s :: p) g = ((h.af [g] s).filter fun o => decide (o ∈ h.B p)).flatMap fun k => (h.rf p k).map fun t => k :: t := by
      rw [Hand.rf]
      refine flatMap_filter fun k hk hq => ?_
      have hk1 := (Hand.mem_af1.mp hk).1
      have : ¬ h.Cn p k := fun z => by
        have := of_decide_eq_false hq
        exact this (Hand.mem_B.mpr ⟨hk1, z⟩)
      rw [(Hand.rf_head hk1).2 this]
      rfl
    constructor
    · intro w
      obtain ⟨k, r, e1, hk, st, w'⟩ := Hand.gr_next w
      obtain ⟨t, r', e2, e3⟩ := (Hand.rf_head (p := p) hk).1 w'
      refine ⟨k :: t, (r'.map fun t => k :: t) ++ r.flatMap (fun k => (h.rf p k).map fun t => k :: t), ?_, ?_⟩
      · rw [e, e1, List.flatMap_cons, e2, List.map_cons, List.cons_append]
      · rw [Hand.gr, e1, List.headD_cons, e3]
    · intro n
      rw [e]
      have : ((h.af [g] s).filter fun o => decide (o ∈ h.B p)) = [] := by
        rw [List.filter_eq_nil_iff]
        intro k hk hq
        obtain ⟨hk1, st⟩ := Hand.mem_af1.mp hk
        obtain ⟨_, f, hf, w⟩ := Hand.mem_B.mp (of_decide_eq_true hq)
        exact n ⟨f, hf, k, hk1, st, w⟩
      rw [this]
      rfl
/-! ### all rows -/
def Hand.allR (h : Hand) (p : List Int) : List (List Int) := FING.flatMap fun f => (h.rf p f).map fun t => f :: t
theorem Hand.mem_allR {h : Hand} {p r : List Int} : r ∈ h.allR p ↔ h.Row p r := by
  unfold Hand.allR
  rw [List.mem_flatMap]
  constructor
  · rintro ⟨f, hf, hr⟩
    obtain ⟨t, ht, rfl⟩ := List.mem_map.mp hr
    exact (Hand.mem_rf (fing_fg.mp hf)).mp ht
  · intro x
    cases r with
    | nil => cases p <;> exact x.elim
    | cons f t =>
      have hf := x.fg f List.mem_cons_self
      exact ⟨f, fing_fg.mpr hf, List.mem_map.mpr ⟨t, (Hand.mem_rf hf).mpr x, rfl⟩⟩
theorem Hand.allR_head {h : Hand} {p : List Int} : (h.allR p).head? = h.firstO p := by
  have e : h.allR p = (FING.filter fun f => decide (f ∈ h.B p)).flatMap fun f => (h.rf p f).map fun t => f :: t := by
    unfold Hand.allR
    refine flatMap_filter fun f hf hq => ?_
    have hf1 := fing_fg.mp hf
    have : ¬ h.Cn p f := fun z => of_decide_eq_false hq (Hand.mem_B.mpr ⟨hf1, z⟩)
    rw [(Hand.rf_head hf1).2 this]
    rfl
  rw [e]
  unfold Hand.firstO
  cases q : FING.filter fun f => decide (f ∈ h.B p) with
  | nil => rfl
  | cons g r =>
    have m : g ∈ FING.filter fun f => decide (f ∈ h.B p) := by rw [q]; exact List.mem_cons_self
    obtain ⟨m1, m2⟩ := List.mem_filter.mp m
    obtain ⟨hg, hc⟩ := Hand.mem_B.mp (of_decide_eq_true m2)
    obtain ⟨t, r', e2, e3⟩ := (Hand.rf_head hg).1 hc
    rw [List.flatMap_cons, e2, List.map_cons, List.cons_append, List.head?_cons, e3]
theorem Hand.allR_nil {h : Hand} {p : List Int} : h.allR p = [] ↔ ¬ h.Pl p := by
  rw [← Hand.firstO_none, ← Hand.allR_head, List.head?_eq_none_iff]
/-! ### their number -/
theorem sum_add (u v : Int → Int) : ∀ l : List Int, (l.map fun x => u x + v x).sum = (l.map u).sum + (l.map v).sum
  | [] => rfl
  | a :: l => by have := sum_add u v l; simp only [List.map_cons, List.sum_cons, this]; omega
theorem mul_sum (c : Int) (u : Int → Int) : ∀ l : List Int, (l.map fun x => c * u x).sum = c * (l.map u).sum
  | [] => by simp
  | a :: l => by have := mul_sum c u l; simp only [List.map_cons, List.sum_cons, this, Int.mul_add]
theorem sum_zero : ∀ l : List Int, (l.map fun _ => (0 : Int)).sum = 0
  | [] => rfl
  | a :: l => by have := sum_zero l; simp only [List.map_cons, List.sum_cons, this]; rfl
theorem sum_comm (a : Int → Int → Int) (l : List Int) : ∀ m : List Int, (l.map fun g => (m.map fun f => a f g).sum).sum = (m.map fun f => (l.map fun g => a f g).sum).sum
  | [] => by simp only [List.map_nil, List.sum_nil]; exact sum_zero l
  | f :: m => by
    have := sum_comm a l m
    simp only [List.map_cons, List.sum_cons]
    rw [sum_add (fun g => a f g) (fun g => (m.map fun f => a f g).sum), this]
theorem sum_filt (q : Int → Bool) (k : Int → Int) : ∀ l : List Int, ((l.filter q).map k).sum = (l.map fun f => if q f = true then k f else 0).sum
  | [] => rfl
  | a :: l => by
    have := sum_filt q k l
    rw [List.filter_cons]
    split <;> rename_i c <;> simp [c, this]
theorem len_flat {α : Type} (f : Int → List α) : ∀ l : List Int, ((l.flatMap f).length : Int) = (l.map fun x => ((f x).length : Int)).sum
  | [] => rfl
  | a :: l => by
    have := len_flat f l
    rw [List.flatMap_cons, List.length_append, List.map_cons, List.sum_cons, ← this]
    omega
theorem af_one {h : Hand} {g s : Int} : h.af [g] s = FING.filter fun o => h.st g s o := by simp [Hand.af]
theorem Hand.cw_sum {h : Hand} : ∀ (p : List Int) (k : Int → Int), (FING.map (h.cw p k)).sum = (FING.map fun f => k f * ((h.rf p f).length : Int)).sum
  | [], k => by simp [Hand.cw, Hand.rf]
  | s :: p, k => by
    rw [Hand.cw, Hand.cw_sum p]
    have e1 : (fun g => h.stepK s k g * ((h.rf p g).length : Int)) = fun g => (FING.map fun f => if h.st f s g = true then k f * ((h.rf p g).length : Int) else 0).sum := by
      funext g
      unfold Hand.stepK
      rw [sum_filt, Int.mul_comm, ← mul_sum]
      congr 1
      apply List.map_congr_left
      intro f _
      split
      · rw [Int.mul_comm]
      · rw [Int.mul_zero]
    have e2 : (fun f => k f * ((h.rf (s :: p) f).length : Int)) = fun f => (FING.map fun g => if h.st f s g = true then k f * ((h.rf p g).length : Int) else 0).sum := by
      funext f
      rw [Hand.rf, len_flat, af_one, sum_filt, ← mul_sum]
      congr 1
      apply List.map_congr_left
      intro g _
      split
      · rw [List.length_map]
      · rw [Int.mul_zero]
    rw [e1, e2]
    exact sum_comm (fun f g => if h.st f s g = true then k f * ((h.rf p g).length : Int) else 0) FING FING
theorem Hand.allR_len {h : Hand} {p : List Int} : ((h.allR p).length : Int) = h.many p := by
  unfold Hand.many Hand.allR
  rw [Hand.cw_sum, len_flat]
  congr 1
  apply List.map_congr_left
  intro f _
  rw [List.length_map, Int.one_mul]
/-! ### built from the beginning -/
def extC (c : List Int → Int → Bool) (R : List (List Int)) : List (List Int) := R.flatMap fun r => (FING.filter (c r)).map fun f => r ++ [f]
def Hand.ext (h : Hand) (s : Int) (R : List (List Int)) : List (List Int) := extC (fun r f => h.st (r.getLastD 0) s f) R
def FS : List (List Int) := [[1], [2], [3], [4], [5]]
theorem extC_len (c : List Int → Int → Bool) : ∀ R : List (List Int), (extC c R).length ≤ 5 * R.length
  | [] => Nat.le_refl _
  | r :: R => by
    have ih := extC_len c R
    unfold extC at ih ⊢
    rw [List.flatMap_cons, List.length_append, List.length_map, List.length_cons]
    have : (FING.filter (c r)).length ≤ 5 := List.length_filter_le _ _
    omega
theorem foldl_ext {h : Hand} : ∀ (p : List Int) (R : List (List Int)), (∀ r ∈ R, r ≠ []) → p.foldl (fun R s => h.ext s R) R = R.flatMap fun r => (h.rf p (r.getLastD 0)).map fun t => r ++ t
  | [], R, _ => by simp [Hand.rf]
  | s :: p, R, hR => by
    rw [List.foldl_cons, foldl_ext p]
    · unfold Hand.ext extC
      rw [List.flatMap_assoc]
      congr 1
      funext r
      rw [Hand.rf, af_one, List.map_flatMap, List.flatMap_map]
      congr 1
      funext k
      simp [Function.comp_def]
    · intro r hr
      unfold Hand.ext extC at hr
      obtain ⟨r', _, hm⟩ := List.mem_flatMap.mp hr
      obtain ⟨f, _, rfl⟩ := List.mem_map.mp hm
      simp
theorem allR_fold {h : Hand} (p : List Int) : h.allR p = p.foldl (fun R s => h.ext s R) FS := by
  rw [foldl_ext p FS (by decide)]
  rfl
def Hand.rows (h : Hand) (p : List Int) : List (List Int) := if p = [] then [[]] else h.allR (stepsIn p)
theorem Hand.mem_rows {h : Hand} {p r : List Int} : r ∈ h.rows p ↔ r.length = p.length ∧ fgB r = true ∧ h.play (stepsIn p) r = true := by
  unfold Hand.rows
  split
  · rename_i e
    subst e
    rw [List.mem_singleton]
    constructor
    · rintro rfl; exact ⟨rfl, rfl, rfl⟩
    · rintro ⟨l, _⟩; exact List.length_eq_zero_iff.mp l
  · rename_i n
    rw [Hand.mem_allR, Hand.row_iff, fgB_iff, stepsIn_len]
    have : 0 < p.length := List.length_pos_iff.mpr n
    rw [show p.length - 1 + 1 = p.length by omega]
theorem Hand.rows_head {h : Hand} {p : List Int} : (h.rows p).head? = h.ff p := by
  unfold Hand.rows Hand.ff
  split
  · rfl
  · exact Hand.allR_head
theorem Hand.rows_len {h : Hand} {p : List Int} : ((h.rows p).length : Int) = h.mny p := by
  unfold Hand.rows Hand.mny
  split
  · rfl
  · exact Hand.allR_len
theorem Hand.rows_nil {h : Hand} {p : List Int} : h.rows p = [] ↔ ¬ h.Pl (stepsIn p) := by
  unfold Hand.rows
  split
  · rename_i e
    subst e
    simp [Hand.pl_nil]
  · exact Hand.allR_nil
theorem Hand.rows_ne {h : Hand} {p : List Int} : (!decide (h.rows p = [])) = h.plB (stepsIn p) := by
  rw [Bool.eq_iff_iff, Hand.plB_iff, Bool.not_eq_true', decide_eq_false_iff_not, Hand.rows_nil, Classical.not_not]
/-! ### the list as the law makes it -/
def inAll : En → M Out := (fIf (fOr (fB (f2 gEq (fBor 3) (fC (.int 0)))) (fTru (fCallM m__law_does 4 (fCons (fVar 0) (fCons (f2 gIxA (fBor 6) (f1 gNeg (fC (.int 1)))) (fCons (fVar 4) (fCons (fVar 7) fNil)))))))
    (fApp 5 (f2 gAdd (fBor 6) (fSz .tup (fCons (fVar 7) fNil))))
    fNext)
theorem inAll_run {hd x1 x2 : Sl} {k by_ f : Int} {acc : List (List Int)} {r : List Int} {τ : Tau} {c : Bool} (ha : acc.length < 100000) (hr : r.length < 1000)
    (hc : (fOr (fB (f2 gEq (fBor 3) (fC (.int 0)))) (fTru (fCallM m__law_does 4 (fCons (fVar 0) (fCons (f2 gIxA (fBor 6) (f1 gNeg (fC (.int 1)))) (fCons (fVar 4) (fCons (fVar 7) fNil)))))) : Ft) [hd, x1, x2, .fz (.int k), .fz (.int by_), .ow (iLL acc), .fz (iT r), .fz (.int f)] τ = .ok c τ) :
    inAll [hd, x1, x2, .fz (.int k), .fz (.int by_), .ow (iLL acc), .fz (iT r), .fz (.int f)] τ = .ok (.next [hd, x1, x2, .fz (.int k), .fz (.int by_), .ow (iLL (acc ++ if c = true then [r ++ [f]] else [])), .fz (iT r), .fz (.int f)]) τ := by
  unfold inAll
  rw [fIf_r, hc, bd_ok]
  cases c with
  | true =>
    have e1 : gAdd (iT r) (.tup [.int f]) = some (iT (r ++ [f])) := by
      rw [gAdd_tup _ _ (by simp; omega)]
      simp
    have e2 : acc.length < 1000000 := by omega
    simp [e1, e2]
  | false => simp
theorem inAll_loop {hd x1 x2 : Sl} {k by_ : Int} {r : List Int} {τ : Tau} (c : Int → Bool) (hr : r.length < 1000) : ∀ (fs : List Int) (acc : List (List Int)) (y : Sl), acc.length + fs.length < 100000 →
    (∀ f ∈ fs, ∀ acc : List (List Int), (fOr (fB (f2 gEq (fBor 3) (fC (.int 0)))) (fTru (fCallM m__law_does 4 (fCons (fVar 0) (fCons (f2 gIxA (fBor 6) (f1 gNeg (fC (.int 1)))) (fCons (fVar 4) (fCons (fVar 7) fNil)))))) : Ft) [hd, x1, x2, .fz (.int k), .fz (.int by_), .ow (iLL acc), .fz (iT r), .fz (.int f)] τ = .ok (c f) τ) →
    ∃ y', loopF (.name 7) inAll (fs.map .int) [hd, x1, x2, .fz (.int k), .fz (.int by_), .ow (iLL acc), .fz (iT r), y] τ = .ok (.next [hd, x1, x2, .fz (.int k), .fz (.int by_), .ow (iLL (acc ++ (fs.filter c).map fun f => r ++ [f])), .fz (iT r), y']) τ
  | [], acc, y, _, _ => ⟨y, by simp⟩
  | f :: fs, acc, y, hl, hc => by
    have hlen : (acc ++ if c f = true then [r ++ [f]] else []).length + fs.length < 100000 := by
      simp only [List.length_cons, List.length_append] at hl ⊢
      split <;> simp <;> omega
    obtain ⟨y', e⟩ := inAll_loop c hr (hd := hd) (x1 := x1) (x2 := x2) (k := k) (by_ := by_) (τ := τ) fs (acc ++ if c f = true then [r ++ [f]] else []) (.fz (.int f)) hlen fun g hg => hc g (List.mem_cons_of_mem _ hg)
    refine ⟨y', ?_⟩
    simp only [List.map_cons, loopF_cons, bindD_name, opt_some_r, bd_ok, List.set_cons_succ, List.set_cons_zero, inAll_run (show acc.length < 100000 by simp only [List.length_cons] at hl; omega) hr (hc f List.mem_cons_self acc), loopK_next]
    rw [e]
    cases z : c f <;> simp [z]
def outAll : En → M Out := (fFor (fRng rng2 (fCons (fC (.int 1)) (fCons (fC (.int 6)) fNil))) (.name 7) inAll)
theorem outAll_loop {hd x1 x2 : Sl} {k by_ : Int} {τ : Tau} (c : List Int → Int → Bool) : ∀ (R : List (List Int)) (acc : List (List Int)) (y z : Sl), acc.length + 5 * R.length < 100000 → (∀ r ∈ R, r.length < 1000) →
    (∀ r ∈ R, ∀ f ∈ FING, ∀ acc : List (List Int), (fOr (fB (f2 gEq (fBor 3) (fC (.int 0)))) (fTru (fCallM m__law_does 4 (fCons (fVar 0) (fCons (f2 gIxA (fBor 6) (f1 gNeg (fC (.int 1)))) (fCons (fVar 4) (fCons (fVar 7) fNil)))))) : Ft) [hd, x1, x2, .fz (.int k), .fz (.int by_), .ow (iLL acc), .fz (iT r), .fz (.int f)] τ = .ok (c r f) τ) →
    ∃ y' z', loopF (.name 6) outAll (R.map iT) [hd, x1, x2, .fz (.int k), .fz (.int by_), .ow (iLL acc), y, z] τ = .ok (.next [hd, x1, x2, .fz (.int k), .fz (.int by_), .ow (iLL (acc ++ extC c R)), y', z']) τ
  | [], acc, y, z, _, _, _ => ⟨y, z, by simp [extC]⟩
  | r :: R, acc, y, z, hl, hR, hc => by
    have f5 : (FING.filter (c r)).length ≤ 5 := List.length_filter_le _ _
    have l5 : FING.length = 5 := rfl
    simp only [List.length_cons] at hl
    obtain ⟨z1, e1⟩ := inAll_loop (c r) (hR r List.mem_cons_self) (hd := hd) (x1 := x1) (x2 := x2) (k := k) (by_ := by_) (τ := τ) FING acc z (by omega) (hc r List.mem_cons_self)
    obtain ⟨y', z', e2⟩ := outAll_loop c (hd := hd) (x1 := x1) (x2 := x2) (k := k) (by_ := by_) (τ := τ) R (acc ++ (FING.filter (c r)).map fun f => r ++ [f]) (.fz (iT r)) z1 (by rw [List.length_append, List.length_map]; omega) (fun r' h' => hR r' (List.mem_cons_of_mem _ h')) fun r' h' => hc r' (List.mem_cons_of_mem _ h')
    refine ⟨y', z', ?_⟩
    have e3 : outAll [hd, x1, x2, .fz (.int k), .fz (.int by_), .ow (iLL acc), .fz (iT r), z] τ = .ok (.next [hd, x1, x2, .fz (.int k), .fz (.int by_), .ow (iLL (acc ++ (FING.filter (c r)).map fun f => r ++ [f])), .fz (iT r), z1]) τ := by
      unfold outAll
      simp only [fFor_r, fRng_r, fCons_r, fC_r, fNil_r, bd_ok, rng_fing, opt_some_r]
      exact e1
    simp only [List.map_cons, loopF_cons, bindD_name, opt_some_r, bd_ok, List.set_cons_succ, List.set_cons_zero, e3, loopK_next]
    rw [e2]
    simp [extC]
def bodyAll : En → M Out := (fSeq (fParO 4 5 (f2 gSub (f2 gIxA (fBor 1) (fBor 3)) (f2 gIxA (fBor 1) (fN gMax2 (fCons (f2 gSub (fBor 3) (fC (.int 1))) (fCons (fC (.int 0)) fNil))))) (fSz .lst fNil))
    (fSeq (fFor (fItA (fVar 2)) (.name 6) outAll)
    (fMove 2 5)))
theorem rows_take0 {h : Hand} {p : List Int} : h.rows (p.take 0) = [[]] := rfl
theorem stepsIn_get : ∀ (p : List Int) (k : Nat) (a b : Int), p[k]? = some a → p[k + 1]? = some b → (stepsIn p)[k]? = some (b - a)
  | [], k, a, b, h, _ => by simp at h
  | [x], 0, a, b, _, h => by simp at h
  | [x], k + 1, a, b, h, _ => by simp at h
  | x :: y :: p, 0, a, b, h1, h2 => by
    simp at h1 h2
    subst h1 h2
    rfl
  | x :: y :: p, k + 1, a, b, h1, h2 => by
    rw [stepsIn_cons, List.getElem?_cons_succ]
    exact stepsIn_get (y :: p) k a b (by simpa using h1) (by simpa using h2)
theorem Hand.rows_succ {h : Hand} {p : List Int} {k : Nat} {s : Int} (hs : (stepsIn p)[k]? = some s) : h.rows (p.take (k + 2)) = h.ext s (h.rows (p.take (k + 1))) := by
  obtain ⟨hk, _⟩ := List.getElem?_eq_some_iff.mp hs
  rw [stepsIn_len] at hk
  have hne : ∀ n, p.take (n + 1) ≠ [] := fun n z => by
    have := congrArg List.length z
    rw [List.length_take, List.length_nil] at this
    omega
  unfold Hand.rows
  rw [if_neg (hne _), if_neg (hne _), stepsIn_take, stepsIn_take, allR_fold, allR_fold]
  have : (stepsIn p).take (k + 1) = (stepsIn p).take k ++ [s] := by
    rw [List.take_succ, hs]
    rfl
  rw [this, List.foldl_append]
  rfl
theorem Hand.rows_small {h : Hand} {p : List Int} : ∀ k : Nat, k ≤ 5 → k ≤ p.length → (h.rows (p.take k)).length ≤ 5 ^ k
  | 0, _, _ => by rw [rows_take0]; decide
  | 1, _, hl => by
    have e : p.take 1 ≠ [] := fun z => by
      have := congrArg List.length z
      rw [List.length_take, List.length_nil] at this
      omega
    unfold Hand.rows
    rw [if_neg e, stepsIn_take]
    show FS.length ≤ 5
    decide
  | k + 2, h5, hl => by
    have hk : k < (stepsIn p).length := by rw [stepsIn_len]; omega
    rw [Hand.rows_succ (List.getElem?_eq_getElem hk)]
    have ih := Hand.rows_small (h := h) (p := p) (k + 1) (by omega) (by omega)
    have := extC_len (fun r f => h.st (r.getLastD 0) ((stepsIn p)[k]) f) (h.rows (p.take (k + 1)))
    unfold Hand.ext
    rw [Nat.pow_succ]
    omega
theorem bodyAll_run {h : Hand} (hh : h.Ok) {p : List Int} (hp5 : p.length ≤ 5) {k : Nat} (hk : k < p.length) {x4 x5 x6 x7 : Sl} {τ : Tau} : ∃ y4 y6 y7, bodyAll [.fz h.d, .fz (iT p), .fz (iLL (h.rows (p.take k))), .fz (.int (k : Int)), x4, x5, x6, x7] τ =
    .ok (.next [.fz h.d, .fz (iT p), .fz (iLL (h.rows (p.take (k + 1)))), .fz (.int (k : Int)), y4, .un, y6, y7]) τ := by
  have hb := Hand.rows_small (h := h) (p := p) k (by omega) (by omega)
  have h54 : 5 ^ k ≤ 5 ^ 4 := Nat.pow_le_pow_right (by decide) (by omega)
  have hrl : ∀ r ∈ h.rows (p.take k), r.length < 1000 := fun r hr => by
    have := (Hand.mem_rows.mp hr).1
    rw [List.length_take] at this
    omega
  obtain ⟨a, ha⟩ : ∃ a, p[k]? = some a := ⟨_, List.getElem?_eq_getElem hk⟩
  have e1 : gIxA (iT p) (.int (k : Int)) = some (.int a) := by rw [gIxA_tup, List.getElem?_map, ha]; rfl
  cases k with
  | zero =>
    have e2 : (fN gMax2 (fCons (f2 gSub (fBor 3) (fC (.int 1))) (fCons (fC (.int 0)) fNil))) [.fz h.d, .fz (iT p), .fz (iLL (h.rows (p.take 0))), .fz (.int ((0 : Nat) : Int)), x4, x5, x6, x7] τ = .ok (.int 0) τ := rfl
    have e3 : gIxA (iT p) (.int 0) = some (.int a) := e1
    obtain ⟨y6, y7, e⟩ := outAll_loop (fun _ _ => true) (hd := .fz h.d) (x1 := .fz (iT p)) (x2 := .fz (iLL (h.rows (p.take 0)))) (k := 0) (by_ := a - a) (τ := τ) (h.rows (p.take 0)) [] x6 x7 (by rw [rows_take0]; decide) hrl (fun r _ f _ acc => by rfl)
    refine ⟨.fz (.int (a - a)), y6, y7, ?_⟩
    unfold bodyAll
    have e51 : f2 gIxA (fBor 1) (fBor 3) [.fz h.d, .fz (iT p), .fz (iLL (h.rows (p.take 0))), .fz (.int ((0 : Nat) : Int)), x4, x5, x6, x7] τ = .ok (.int a) τ := by
      rw [f2_r]
      simp only [fBor_r, List.getElem?_cons_zero, List.getElem?_cons_succ, opt_some_r, bd_ok, e1]
    have e52 : f2 gIxA (fBor 1) (fN gMax2 (fCons (f2 gSub (fBor 3) (fC (.int 1))) (fCons (fC (.int 0)) fNil))) [.fz h.d, .fz (iT p), .fz (iLL (h.rows (p.take 0))), .fz (.int ((0 : Nat) : Int)), x4, x5, x6, x7] τ = .ok (.int a) τ := by
      rw [f2_r]
      simp only [fBor_r, List.getElem?_cons_zero, List.getElem?_cons_succ, opt_some_r, bd_ok]
      rw [e2]
      simp only [bd_ok, e3, opt_some_r]
    have e5 : f2 gSub (f2 gIxA (fBor 1) (fBor 3)) (f2 gIxA (fBor 1) (fN gMax2 (fCons (f2 gSub (fBor 3) (fC (.int 1))) (fCons (fC (.int 0)) fNil)))) [.fz h.d, .fz (iT p), .fz (iLL (h.rows (p.take 0))), .fz (.int ((0 : Nat) : Int)), x4, x5, x6, x7] τ = .ok (.int (a - a)) τ := by
      rw [f2_r, e51, bd_ok, e52, bd_ok, gSub_int, opt_some_r]
    rw [fSeq_r, fParO_r, e5]
    simp only [List.getElem?_cons_zero, List.getElem?_cons_succ, opt_some_r, bd_ok, e1, e3, gSub_int, fSz_r, fNil_r, List.length_nil, SZ_eq, Nat.zero_le, if_true, List.set_cons_succ, List.set_cons_zero, seqK_next, fSeq_r, fFor_r, fItA_r, fVar_r, items0_lst]
    have e : loopF (.name 6) outAll (List.map iT (h.rows (p.take 0))) [.fz h.d, .fz (iT p), .fz (iLL (h.rows (p.take 0))), .fz (.int ((0 : Nat) : Int)), .fz (.int (a - a)), .ow (.lst []), x6, x7] τ = _ := e
    rw [e, bd_ok, seqK_next]
    have e4 : h.rows (p.take (0 + 1)) = FS := by
      have e : p.take 1 ≠ [] := fun z => by
        have := congrArg List.length z
        rw [List.length_take, List.length_nil] at this
        omega
      unfold Hand.rows
      rw [if_neg e, stepsIn_take]
      rfl
    rw [e4]
    rfl
  | succ k =>
    obtain ⟨b, hb'⟩ : ∃ b, p[k]? = some b := ⟨_, List.getElem?_eq_getElem (by omega)⟩
    have e0 : gIxA (iT p) (.int (k : Int)) = some (.int b) := by rw [gIxA_tup, List.getElem?_map, hb']; rfl
    have hs := stepsIn_get p k b a hb' ha
    have em : (if (0 : Int) > ((k + 1 : Nat) : Int) - 1 then (0 : Int) else ((k + 1 : Nat) : Int) - 1) = (k : Int) := by
      rw [if_neg (by omega)]; omega
    have e2 : (fN gMax2 (fCons (f2 gSub (fBor 3) (fC (.int 1))) (fCons (fC (.int 0)) fNil))) [.fz h.d, .fz (iT p), .fz (iLL (h.rows (p.take (k + 1)))), .fz (.int ((k + 1 : Nat) : Int)), x4, x5, x6, x7] τ = .ok (.int (k : Int)) τ := by
      simp only [fN_r, fCons_r, f2_r, fBor_r, fC_r, fNil_r, List.getElem?_cons_zero, List.getElem?_cons_succ, opt_some_r, bd_ok, gSub_int, gMax_int, em]
    have hrow : ∀ r ∈ h.rows (p.take (k + 1)), ∃ l x, r = l ++ [x] ∧ Fg x := fun r hr => by
      obtain ⟨l1, l2, _⟩ := Hand.mem_rows.mp hr
      rw [List.length_take] at l1
      have : r ≠ [] := fun z => by rw [z, List.length_nil] at l1; omega
      obtain ⟨u, v, e⟩ := snocI this
      exact ⟨u, v, e, fgB_iff.mp l2 v (by rw [e]; simp)⟩
    obtain ⟨y6, y7, e⟩ := outAll_loop (fun r f => h.st (r.getLastD 0) (a - b) f) (hd := .fz h.d) (x1 := .fz (iT p)) (x2 := .fz (iLL (h.rows (p.take (k + 1))))) (k := ((k + 1 : Nat) : Int)) (by_ := a - b) (τ := τ) (h.rows (p.take (k + 1))) [] x6 x7 (by simp only [List.length_nil]; omega) hrl (fun r hr f hf acc => by
      obtain ⟨l, x, rfl, hx⟩ := hrow r hr
      have g1 : gEq (.int ((k + 1 : Nat) : Int)) (.int 0) = some (.bl false) := by
        simp
        omega
      have g2 : gIxA (iT (l ++ [x])) (.int (-1)) = some (.int x) := by
        rw [show iT (l ++ [x]) = D.tup (l.map D.int ++ [.int x]) by simp]
        exact gIxA_lastT _ _
      have g3 := law_does_run hh hx (fing_fg.mp hf) (s := a - b) τ
      simp only [fOr_r, fB_r, f2_r, f1_r, fBor_r, fC_r, fTru_r, fCallM_r, fCons_r, fNil_r, fVar_r, List.getElem?_cons_zero, List.getElem?_cons_succ, opt_some_r, bd_ok, g1, toB_r, Bool.false_eq_true, if_false, gNeg_int, g2, List.length_cons, List.length_nil, if_true, g3, truD_bl]
      simp)
    refine ⟨.fz (.int (a - b)), y6, y7, ?_⟩
    unfold bodyAll
    have e51 : f2 gIxA (fBor 1) (fBor 3) [.fz h.d, .fz (iT p), .fz (iLL (h.rows (p.take (k + 1)))), .fz (.int ((k + 1 : Nat) : Int)), x4, x5, x6, x7] τ = .ok (.int a) τ := by
      rw [f2_r]
      simp only [fBor_r, List.getElem?_cons_zero, List.getElem?_cons_succ, opt_some_r, bd_ok, e1]
    have e52 : f2 gIxA (fBor 1) (fN gMax2 (fCons (f2 gSub (fBor 3) (fC (.int 1))) (fCons (fC (.int 0)) fNil))) [.fz h.d, .fz (iT p), .fz (iLL (h.rows (p.take (k + 1)))), .fz (.int ((k + 1 : Nat) : Int)), x4, x5, x6, x7] τ = .ok (.int b) τ := by
      rw [f2_r]
      simp only [fBor_r, List.getElem?_cons_zero, List.getElem?_cons_succ, opt_some_r, bd_ok]
      rw [e2]
      simp only [bd_ok, e0, opt_some_r]
    have e5 : f2 gSub (f2 gIxA (fBor 1) (fBor 3)) (f2 gIxA (fBor 1) (fN gMax2 (fCons (f2 gSub (fBor 3) (fC (.int 1))) (fCons (fC (.int 0)) fNil)))) [.fz h.d, .fz (iT p), .fz (iLL (h.rows (p.take (k + 1)))), .fz (.int ((k + 1 : Nat) : Int)), x4, x5, x6, x7] τ = .ok (.int (a - b)) τ := by
      rw [f2_r, e51, bd_ok, e52, bd_ok, gSub_int, opt_some_r]
    rw [fSeq_r, fParO_r, e5]
    simp only [List.getElem?_cons_zero, List.getElem?_cons_succ, opt_some_r, bd_ok, e1, e0, gSub_int, fSz_r, fNil_r, List.length_nil, SZ_eq, Nat.zero_le, if_true, List.set_cons_succ, List.set_cons_zero, seqK_next, fSeq_r, fFor_r, fItA_r, fVar_r, items0_lst]
    have e : loopF (.name 6) outAll (List.map iT (h.rows (p.take (k + 1)))) [.fz h.d, .fz (iT p), .fz (iLL (h.rows (p.take (k + 1)))), .fz (.int ((k + 1 : Nat) : Int)), .fz (.int (a - b)), .ow (.lst []), x6, x7] τ = _ := e
    rw [e, bd_ok, seqK_next, Hand.rows_succ hs]
    rfl
theorem all_loop {h : Hand} (hh : h.Ok) {p : List Int} (hp5 : p.length ≤ 5) {τ : Tau} : ∀ (m k : Nat), k + m = p.length → ∀ (y3 x4 x5 x6 x7 : Sl), ∃ z3 z4 z5 z6 z7, loopF (.name 3) bodyAll (idx k m) [.fz h.d, .fz (iT p), .fz (iLL (h.rows (p.take k))), y3, x4, x5, x6, x7] τ = .ok (.next [.fz h.d, .fz (iT p), .fz (iLL (h.rows p)), z3, z4, z5, z6, z7]) τ
  | 0, k, e, y3, x4, x5, x6, x7 => by
    have : p.take k = p := List.take_of_length_le (by omega)
    rw [this]
    exact ⟨y3, x4, x5, x6, x7, rfl⟩
  | m + 1, k, e, y3, x4, x5, x6, x7 => by
    obtain ⟨y4, y6, y7, e1⟩ := bodyAll_run hh hp5 (show k < p.length by omega) (x4 := x4) (x5 := x5) (x6 := x6) (x7 := x7) (τ := τ)
    obtain ⟨z3, z4, z5, z6, z7, e2⟩ := all_loop hh hp5 (τ := τ) m (k + 1) (by omega) (.fz (.int (k : Int))) y4 .un y6 y7
    refine ⟨z3, z4, z5, z6, z7, ?_⟩
    rw [idx_succ]
    simp only [loopF_cons, bindD_name, opt_some_r, bd_ok, List.set_cons_succ, List.set_cons_zero, e1, loopK_next]
    exact e2
def B_all : Fs := fun _ => fSeq (fAsg (.name 2) (fSz .lst (fCons (fSz .tup fNil) fNil))) (fSeq (fFor (fRng rng1 (fCons (fN gLen (fCons (fBor 1) fNil)) fNil)) (.name 3) bodyAll) (fRet (fVar 2)))
theorem all_eq : m__law_all = mOf B_all 8 := rfl
theorem law_all_run {h : Hand} (hh : h.Ok) {p : List Int} (hp5 : p.length ≤ 5) (τ : Tau) : m__law_all [h.d, iT p] τ = .ok (iLL (h.rows p)) τ := by
  obtain ⟨z3, z4, z5, z6, z7, e⟩ := all_loop hh hp5 (τ := τ) p.length 0 (by omega) .un .un .un .un .un
  have e1 : gLen [iT p] = some (.int (p.length : Int)) := by rw [gLen_tup, List.length_map]
  have e2 : (fCons (fN gLen (fCons (fBor 1) fNil)) fNil) [.fz h.d, .fz (iT p), .fz (iLL [[]]), .un, .un, .un, .un, .un] τ = .ok [.int (p.length : Int)] τ := by
    rw [fCons_r, fN_r, fCons_r, fBor_r]
    simp only [List.getElem?_cons_succ, List.getElem?_cons_zero, opt_some_r, bd_ok, fNil_r]
    rw [e1]
    rfl
  have e3 : fAsg (.name 2) (fSz .lst (fCons (fSz .tup fNil) fNil)) [.fz h.d, .fz (iT p), .un, .un, .un, .un, .un, .un] τ = .ok (.next [.fz h.d, .fz (iT p), .fz (iLL [[]]), .un, .un, .un, .un, .un]) τ := by simp
  rw [all_eq, mOf_r]
  show (B_all FUEL [.fz h.d, .fz (iT p), .un, .un, .un, .un, .un, .un] τ).bd _ = _
  unfold B_all
  rw [fSeq_r, e3, bd_ok, seqK_next, fSeq_r, fFor_r, fRng_r, e2, bd_ok, rng_idx p.length (by omega), opt_some_r, bd_ok]
  have e : loopF (.name 3) bodyAll (idx 0 p.length) [.fz h.d, .fz (iT p), .fz (iLL [[]]), .un, .un, .un, .un, .un] τ = _ := e
  rw [e]
  simp
/-! ### lists of rows -/
theorem okd_iLL (R : List (List Int)) : okd 32 (iLL R) = true := by
  show (R.map iT).all (okd 31) = true
  rw [List.all_map, List.all_eq_true]
  intro r _
  exact okd_ints 30 r
theorem any_row (v : List Int) (R : List (List Int)) : ((R.map iT).any fun y => deq y (iT v)) = decide (v ∈ R) := by
  induction R with
  | nil => rfl
  | cons r R ih =>
    rw [List.map_cons, List.any_cons, ih, deq_iT]
    by_cases e : r = v
    · subst e; simp
    · have e' : ¬ v = r := fun z => e z.symm
      simp [e, e']
theorem gIn_iLL (v : List Int) (R : List (List Int)) : gIn (iT v) (iLL R) = some (.bl (decide (v ∈ R))) := by
  have e1 : gInF false (iT v) (iLL R) = none := by simp [gInF, flatD]
  have e2 : gInD false (iT v) (iLL R) = some (.bl (decide (v ∈ R))) := by
    show (if okd 32 (iT v) = true ∧ okd 32 (iLL R) = true then some (D.bl ((R.map iT).any fun z => deq z (iT v))) else none) = _
    rw [if_pos ⟨okd_ints 31 v, okd_iLL R⟩, any_row]
  show (gInF false _ _).or ((gInD false _ _).or _) = _
  rw [e1, e2]
  rfl
theorem deq_iLL0 (R : List (List Int)) : deq (iLL R) (.lst []) = decide (R = []) := by
  cases R with
  | nil => rfl
  | cons r R =>
    have : decide (r :: R = []) = false := by simp
    rw [this]
    rfl
theorem gNe_iLL0 (R : List (List Int)) : gNe (iLL R) (.lst []) = some (.bl (!decide (R = []))) := by
  unfold gNe
  rw [if_pos ⟨okd_iLL R, rfl⟩, deq_iLL0]
theorem gEq_iLL0 (R : List (List Int)) : gEq (iLL R) (.lst []) = some (.bl (decide (R = []))) := by
  unfold gEq
  rw [if_pos ⟨okd_iLL R, rfl⟩, deq_iLL0]
theorem gAdd_lst (a b : List D) (h : a.length + b.length ≤ 1000000) : gAdd (.lst a) (.lst b) = some (.lst (a ++ b)) := by
  have e : cL (.lst a) (.lst b) = some (.lst (a ++ b)) := by
    show (if a.length + b.length ≤ SZ then some (D.lst (a ++ b)) else none) = _
    rw [if_pos (by simpa [SZ] using h)]
  have e2 : cT (.lst a) (.lst b) = none := rfl
  simp [gAdd, onI, e, e2]
theorem gSl_takeL (l : List D) (n : Nat) : gSl (.lst l) none (some (n : Int)) = some (.lst (l.take n)) := by
  show some (D.lst (cutD _ _ _)) = _
  rw [cut_to]
theorem gNe_opt (o : Option (List Int)) : gNe (optT o) (optT o) = some (.bl false) := by
  cases o with
  | none => rfl
  | some r => show gNe (iT r) (iT r) = _; rw [gNe_iT]; simp
theorem gNe_optN (o : Option Nat) : gNe (optN o) (optN o) = some (.bl false) := by
  cases o with
  | none => rfl
  | some n => show gNe (.int n) (.int n) = _; simp
/-- a finger that some row has at a place -/
theorem Hand.at_row {h : Hand} {p : List Int} {i : Nat} {g : Int} (hi : i ≤ p.length) : g ∈ h.at p i ↔ ∃ r, h.Row p r ∧ r[i]? = some g := by
  constructor
  · intro m
    obtain ⟨hg, ⟨f, hf, w⟩, k, hk, w2⟩ := Hand.mem_at.mp m
    obtain ⟨r1, x1, l, e1⟩ := Hand.wk_row hf w
    obtain ⟨r2, x2, _⟩ := Hand.wk_row hg w2
    rw [e1] at x1
    have := Hand.Row.app x2 x1
    rw [List.take_append_drop] at this
    refine ⟨_, this, ?_⟩
    have hl := x1.len
    rw [List.length_append, List.length_singleton, List.length_take] at hl
    have : l.length = i := by omega
    rw [List.getElem?_append_right (by omega), this]
    simp
  · rintro ⟨r, x, e⟩
    exact Hand.row_at x e
end KF
set_option maxHeartbeats 1000000
/-! KMJ: crossings, the fewest ones. -/
namespace KF
open L2
open PySem (PyData)
open PySem.W (dataLt alike keyToks keyToksAll)
open PyProof.Rows (itemOrd lex_cons)
/-! ### the order of pairs of a number and a row -/
abbrev CR := Int × List Int
def cD (x : CR) : D := .tup [.int x.1, iT x.2]
def ltR : List Int → List Int → Bool
  | [], [] => false
  | [], _ :: _ => true
  | _ :: _, [] => false
  | a :: r, b :: t => decide (a < b) || (!decide (b < a) && ltR r t)
def ltP (x y : CR) : Bool := decide (x.1 < y.1) || (!decide (y.1 < x.1) && ltR x.2 y.2)
theorem ltR_app : ∀ {a b : List Int} (o : Int), a.length = b.length → ltR (a ++ [o]) (b ++ [o]) = ltR a b
  | [], [], o, _ => by simp [ltR]
  | [], _ :: _, _, h => by simp at h
  | _ :: _, [], _, h => by simp at h
  | x :: a, y :: b, o, h => by
    rw [List.cons_append, List.cons_append, ltR, ltR, ltR_app o (by simpa using h)]
theorem ltR_neg : ∀ {a b c : List Int}, ltR a b = false → ltR b c = false → ltR a c = false
  | [], [], c, _, h => h
  | [], _ :: _, _, h, _ => by simp [ltR] at h
  | _ :: _, [], [], _, _ => rfl
  | _ :: _, [], _ :: _, _, h => by simp [ltR] at h
  | _ :: _, _ :: _, [], _, _ => rfl
  | x :: a, y :: b, z :: c, h1, h2 => by
    rw [ltR] at h1 h2 ⊢
    simp only [Bool.or_eq_false_iff, decide_eq_false_iff_not, Bool.and_eq_false_iff, Bool.not_eq_false', decide_eq_true_eq] at h1 h2 ⊢
    refine ⟨by omega, ?_⟩
    rcases h1.2 with p | p
    · left; omega
    · rcases h2.2 with q | q
      · left; omega
      · by_cases e : z < x
        · exact .inl e
        · exact .inr (ltR_neg p q)
theorem ltR_tot : ∀ {a b : List Int}, ltR a b = false → ltR b a = false → a = b
  | [], [], _, _ => rfl
  | [], _ :: _, h, _ => by simp [ltR] at h
  | _ :: _, [], _, h => by simp [ltR] at h
  | x :: a, y :: b, h1, h2 => by
    rw [ltR] at h1 h2
    simp only [Bool.or_eq_false_iff, decide_eq_false_iff_not, Bool.and_eq_false_iff, Bool.not_eq_false', decide_eq_true_eq] at h1 h2
    have e : x = y := by omega
    subst e
    have p : ltR a b = false := h1.2.resolve_left (by omega)
    have q : ltR b a = false := h2.2.resolve_left (by omega)
    rw [ltR_tot p q]
theorem ltP_iff {x y : CR} : ltP x y = false ↔ y.1 < x.1 ∨ (y.1 = x.1 ∧ ltR x.2 y.2 = false) := by
  unfold ltP
  simp only [Bool.or_eq_false_iff, decide_eq_false_iff_not, Bool.and_eq_false_iff, Bool.not_eq_false', decide_eq_true_eq]
  constructor
  · rintro ⟨h1, h2⟩
    rcases h2 with h | h
    · exact .inl h
    · by_cases e : y.1 < x.1
      · exact .inl e
      · exact .inr ⟨by omega, h⟩
  · rintro (h | ⟨h1, h2⟩)
    · exact ⟨by omega, .inl h⟩
    · exact ⟨by omega, .inr h2⟩
theorem ltP_neg {x y z : CR} (h1 : ltP x y = false) (h2 : ltP y z = false) : ltP x z = false := by
  rw [ltP_iff] at *
  rcases h1 with h1 | ⟨h1, k1⟩ <;> rcases h2 with h2 | ⟨h2, k2⟩
  · left; omega
  · left; omega
  · left; omega
  · exact .inr ⟨by omega, ltR_neg k1 k2⟩
theorem ltP_tot {x y : CR} (h1 : ltP x y = false) (h2 : ltP y x = false) : x = y := by
  rw [ltP_iff] at h1 h2
  have e : x.1 = y.1 := by omega
  have p : ltR x.2 y.2 = false := by
    rcases h1 with h | h
    · omega
    · exact h.2
  have q : ltR y.2 x.2 = false := by
    rcases h2 with h | h
    · omega
    · exact h.2
  exact Prod.ext e (ltR_tot p q)
theorem ltR_self : ∀ a : List Int, ltR a a = false
  | [] => rfl
  | x :: a => by rw [ltR, ltR_self a]; simp
theorem ltP_self (x : CR) : ltP x x = false := ltP_iff.mpr (.inr ⟨rfl, ltR_self _⟩)
theorem ltP_ext {x y : CR} {d o : Int} (l : x.2.length = y.2.length) : ltP (x.1 + d, x.2 ++ [o]) (y.1 + d, y.2 ++ [o]) = ltP x y := by
  unfold ltP
  simp only [ltR_app o l]
  have a : decide (x.1 + d < y.1 + d) = decide (x.1 < y.1) := by congr 1; simp
  have b : decide (y.1 + d < x.1 + d) = decide (y.1 < x.1) := by congr 1; simp
  rw [a, b]
/-! ### as Python compares them -/
theorem toks_ints (t : List (Int ⊕ List Nat)) : ∀ r : List Int, keyToksAll (toPys ((r.map D.int))) ++ t = (match r with | [] => .inl 0 :: t | x :: r' => .inl 1 :: .inl x :: (keyToksAll (toPys (r'.map D.int)) ++ t))
  | [] => by simp [toPys, keyToksAll]
  | x :: r => by simp [toPys, toPy, keyToksAll, keyToks]
theorem lex_rows (t : List (Int ⊕ List Nat)) (ht : PyProof.Rows.lexLt itemOrd t t = false) : ∀ a b : List Int, PyProof.Rows.lexLt itemOrd (keyToksAll (toPys (a.map D.int)) ++ t) (keyToksAll (toPys (b.map D.int)) ++ t) = ltR a b
  | [], [] => by rw [toks_ints t []]; rw [lex_cons, ht]; simp [ltR]; rfl
  | [], y :: b => by rw [toks_ints t [], toks_ints t (y :: b), lex_cons]; rfl
  | x :: a, [] => by rw [toks_ints t [], toks_ints t (x :: a), lex_cons]; rfl
  | x :: a, y :: b => by
    rw [toks_ints t (x :: a), toks_ints t (y :: b), lex_cons, lex_cons, lex_rows t ht a b, ltR]
    rfl
theorem dataLt_cD (x y : CR) : dataLt (toPy (cD x)) (toPy (cD y)) = ltP x y := by
  obtain ⟨c, r⟩ := x
  obtain ⟨c', r'⟩ := y
  unfold dataLt
  have e : ∀ (c : Int) (r : List Int), keyToks (toPy (cD (c, r))) = .inl 1 :: .inl c :: .inl 1 :: (keyToksAll (toPys (r.map D.int)) ++ [.inl 0]) := by
    intro c r
    simp [cD, toPy, toPys, keyToks, keyToksAll]
  rw [e, e, lex_cons, lex_cons, lex_cons, lex_rows [.inl 0] rfl]
  unfold ltP
  simp only
  show (decide ((1 : Int) < 1) || (!decide ((1 : Int) < 1) && (decide (c < c') || (!decide (c' < c) && (decide ((1 : Int) < 1) || (!decide ((1 : Int) < 1) && ltR r r')))))) = _
  simp
theorem alike_ints : ∀ a b : List Int, PySem.W.alikeAll (toPys (a.map D.int)) (toPys (b.map D.int)) = true
  | [], b => by rw [List.map_nil, toPys]; cases b <;> simp [PySem.W.alikeAll]
  | x :: a, [] => by simp [toPys, PySem.W.alikeAll]
  | x :: a, y :: b => by
    rw [List.map_cons, List.map_cons, toPys, toPys, toPy, toPy, PySem.W.alikeAll, alike_ints a b]
    rfl
theorem alike_cD (x y : CR) : alike (toPy (cD x)) (toPy (cD y)) = true := by
  simp [cD, toPy, toPys, alike, PySem.W.alikeAll, alike_ints]
theorem okd_cD (x : CR) : okd 31 (cD x) = true := by
  show ([.int x.1, iT x.2] : List D).all (okd 30) = true
  simp [okd_int, okd_ints 29 x.2]
theorem alk_cD (l : List CR) : (l.map cD).all (okd 31) = true ∧ alkB (l.map cD) = true ∧ tupB (l.map cD) = true := by
  refine ⟨?_, ?_, ?_⟩
  · rw [List.all_eq_true]
    intro d hd
    obtain ⟨x, _, rfl⟩ := List.mem_map.mp hd
    exact okd_cD x
  · unfold alkB
    rw [Bool.and_eq_true]
    constructor
    · rw [List.all_eq_true]
      intro d hd
      rw [List.all_eq_true]
      intro e he
      obtain ⟨x, _, rfl⟩ := List.mem_map.mp hd
      obtain ⟨y, _, rfl⟩ := List.mem_map.mp he
      exact alike_cD x y
    · rw [List.all_eq_true]
      intro d hd
      obtain ⟨x, _, rfl⟩ := List.mem_map.mp hd
      rfl
  · unfold tupB
    rw [List.all_eq_true]
    intro d hd
    obtain ⟨x, _, rfl⟩ := List.mem_map.mp hd
    rfl
def minP (x : CR) (l : List CR) : CR := l.foldl (fun a y => if ltP y a = true then y else a) x
theorem minF_cD : ∀ (l : List CR) (x : CR), minF (cD x) (l.map cD) = cD (minP x l)
  | [], x => rfl
  | y :: l, x => by
    have ih := minF_cD l (if ltP y x = true then y else x)
    unfold minF minP at ih ⊢
    rw [List.map_cons, List.foldl_cons, List.foldl_cons, ← ih, dataLt_cD]
    congr 1
    split <;> rfl
theorem gMin_cD (x : CR) (l : List CR) : gMinL [.lst ((x :: l).map cD)] = some (cD (minP x l)) := by
  have h := alk_cD (x :: l)
  show (if ((cD x :: l.map cD)).all (okd 31) = true ∧ alkB (cD x :: l.map cD) = true then some (minF (cD x) (l.map cD)) else none) = _
  rw [if_pos ⟨h.1, h.2.1⟩, minF_cD]
def sortP (l : List CR) : List CR := l.mergeSort fun a b => !ltP b a
theorem gSort_cD (l : List CR) : gSortL [.lst (l.map cD)] = some (.lst ((sortP l).map cD)) := by
  have h := alk_cD l
  show (if (l.map cD).all (okd 31) = true ∧ alkB (l.map cD) = true ∧ (tupB (l.map cD) = true ∨ intB (l.map cD) = true) then some (D.lst (sortF (l.map cD))) else none) = _
  rw [if_pos ⟨h.1, h.2.1, .inl h.2.2⟩]
  unfold sortF sortP
  rw [List.map_mergeSort (s := fun a b => !dataLt (toPy b) (toPy a)) (fun a _ b _ => by rw [dataLt_cD])]
theorem minP_mem : ∀ (l : List CR) (x : CR), minP x l ∈ x :: l
  | [], x => List.mem_cons_self
  | y :: l, x => by
    have := minP_mem l (if ltP y x = true then y else x)
    unfold minP at this ⊢
    rw [List.foldl_cons]
    rcases List.mem_cons.mp this with h | h
    · rw [h]
      split
      · exact List.mem_cons_of_mem _ List.mem_cons_self
      · exact List.mem_cons_self
    · exact List.mem_cons_of_mem _ (List.mem_cons_of_mem _ h)
theorem ltP_asym {x y : CR} (h : ltP x y = true) : ltP y x = false := by
  cases q : ltP y x with
  | false => rfl
  | true =>
    unfold ltP at h q
    simp only [Bool.or_eq_true, decide_eq_true_eq, Bool.and_eq_true, Bool.not_eq_true', decide_eq_false_iff_not] at h q
    have e : x.1 = y.1 := by omega
    have p1 : ltR x.2 y.2 = true := by
      rcases h with h | h
      · omega
      · exact h.2
    have p2 : ltR y.2 x.2 = true := by
      rcases q with h | h
      · omega
      · exact h.2
    exact absurd p2 (by rw [ltR_asym p1]; simp)
where
  ltR_asym : ∀ {a b : List Int}, ltR a b = true → ltR b a = false
    | [], [], h => by simp [ltR] at h
    | [], _ :: _, _ => rfl
    | _ :: _, [], h => by simp [ltR] at h
    | x :: a, y :: b, h => by
      rw [ltR] at h ⊢
      simp only [Bool.or_eq_true, decide_eq_true_eq, Bool.and_eq_true, Bool.not_eq_true', decide_eq_false_iff_not] at h
      simp only [Bool.or_eq_false_iff, decide_eq_false_iff_not, Bool.and_eq_false_iff, Bool.not_eq_false', decide_eq_true_eq]
      rcases h with h | ⟨h, k⟩
      · exact ⟨by omega, .inl h⟩
      · exact ⟨h, .inr (ltR_asym k)⟩
theorem minP_le : ∀ (l : List CR) (x : CR), ∀ y ∈ x :: l, ltP y (minP x l) = false
  | [], x, y, h => by rw [List.mem_singleton.mp h]; exact ltP_self x
  | z :: l, x, y, h => by
    have ih := minP_le l (if ltP z x = true then z else x)
    unfold minP at ih ⊢
    rw [List.foldl_cons]
    rcases List.mem_cons.mp h with rfl | h
    · by_cases c : ltP z y = true
      · rw [if_pos c] at ih ⊢
        exact ltP_neg (ltP_asym c) (ih z List.mem_cons_self)
      · rw [if_neg c] at ih ⊢
        exact ih y List.mem_cons_self
    · rcases List.mem_cons.mp h with rfl | h
      · by_cases c : ltP y x = true
        · rw [if_pos c] at ih ⊢
          exact ih y List.mem_cons_self
        · rw [if_neg c] at ih ⊢
          exact ltP_neg (by simpa using c) (ih x List.mem_cons_self)
      · exact ih y (List.mem_cons_of_mem _ h)
end KF
set_option maxHeartbeats 1000000
/-! KMK: crossings as the program counts them, the fewest ones. -/
namespace KF
open L2
def crB (f s o : Int) : Bool := !decide (f = o) && decide ((if f < o then s else 0 - s) < 0)
theorem does_cross_run (f s o : Int) (τ : Tau) : m_does_cross [.int f, .int s, .int o] τ = .ok (.bl (crB f s o)) τ := by
  unfold crB
  by_cases e : f = o
  · simp [m_does_cross, B_does_cross, e]
  · by_cases l : f < o <;> simp [m_does_cross, B_does_cross, e, l]
def cr : List Int → List Int → Int
  | s :: p, f :: g :: r => (if crB f s g = true then 1 else 0) + cr p (g :: r)
  | _, _ => 0
theorem cr_zip : ∀ (p r : List Int), cr p r = (((r.zip (p.zip r.tail)).filter fun x => crB x.1 x.2.1 x.2.2).length : Nat)
  | [], r => by cases r with
    | nil => rfl
    | cons f r => simp [cr]
  | s :: p, [] => by simp [cr]
  | s :: p, [f] => by simp [cr]
  | s :: p, f :: g :: r => by
    rw [cr, cr_zip p (g :: r)]
    simp only [List.tail_cons, List.zip_cons_cons, List.filter_cons]
    split <;> rename_i h <;> simp [h] <;> omega
theorem cr_snoc : ∀ (p r : List Int) (s f o : Int), (r ++ [f]).length = p.length + 1 → cr (p ++ [s]) (r ++ [f] ++ [o]) = cr p (r ++ [f]) + (if crB f s o = true then 1 else 0)
  | [], r, s, f, o, h => by
    have : r = [] := by cases r with
      | nil => rfl
      | cons a r => simp at h
    subst this
    simp [cr]
  | s0 :: p, [], s, f, o, h => by simp at h
  | s0 :: p, [a], s, f, o, h => by
    have : p = [] := by cases p with
      | nil => rfl
      | cons b p => simp at h
    subst this
    simp [cr]
  | s0 :: p, a :: b :: r, s, f, o, h => by
    have ih := cr_snoc p (b :: r) s f o (by simp at h ⊢; omega)
    show cr (s0 :: (p ++ [s])) (a :: b :: (r ++ [f] ++ [o])) = cr (s0 :: p) (a :: b :: (r ++ [f])) + _
    rw [cr, cr]
    have ih : cr (p ++ [s]) (b :: (r ++ [f] ++ [o])) = cr p (b :: (r ++ [f])) + _ := ih
    rw [ih]
    omega
theorem crossings_of_run {p r : List Int} (hr : r.length ≤ 1000) {d : D} (hd : items0 d = some (p.map .int)) (τ : Tau) : m_crossings_of [d, iT r] τ = .ok (.int (cr p r)) τ := by
  have e1 : gSl (iT r) (some 1) none = some (iT r.tail) := gSl_tail r
  have hz : zip3 [iT r, d, iT r.tail] = some ((r.zip (p.zip r.tail)).map t3) := zip3_ints rfl hd rfl
  have e2 : fLc (fRng zip3 (fCons (fVar 1) (fCons (fVar 0) (fCons (fSl (fBor 1) (fPart (fC (.int 1))) fNoPart) fNil)))) (.tup [(.name 2), (.name 3), (.name 4)]) (fTru (fCallM m_does_cross 3 (fCons (fVar 2) (fCons (fVar 3) (fCons (fVar 4) fNil))))) (fC (.int 1)) [2, 3, 4] [.fz d, .fz (iT r), .un, .un, .un] τ = .ok (.lst (((r.zip (p.zip r.tail)).filter fun x => crB x.1 x.2.1 x.2.2).map fun _ => .int 1)) τ := by
    rw [fLc_map t3 (r.zip (p.zip r.tail)) (fun x => crB x.1 x.2.1 x.2.2) (fun _ => .int 1) ?h1 ?h2 ?h3]
    case h1 => simp [e1, hz]
    case h2 => show _ ≤ 1000000; rw [List.length_zip]; omega
    case h3 =>
      rintro ⟨a, b, c⟩ _
      exact ⟨_, by simp [t3, wipeE]; rfl, by simp [does_cross_run], fun _ => rfl⟩
  simp [m_crossings_of, B_crossings_of, e2]
  rw [cr_zip]
theorem crossings_run {h : Hand} (hh : h.Ok) {p r : List Int} (hp : Psg p) (hr : r ∈ h.rows p) (τ : Tau) : m_crossings [h.d, iT p, iT r] τ = .ok (.int (cr (stepsIn p) r)) τ := by
  have hl := hp.len
  obtain ⟨m1, m2, m3⟩ := Hand.mem_rows.mp hr
  have e1 := is_fingering_of_run hh (ps := p) (r := r) (by omega) (by omega) τ
  rw [show (decide (r.length = p.length) && (fgB r && h.play (stepsIn p) r)) = true by simp [m1, m2, m3]] at e1
  simp [m_crossings, B_crossings, check_both_run hh hp, e1, steps_in_run p (by omega), crossings_of_run (p := stepsIn p) (r := r) (by omega) (d := iL (stepsIn p)) rfl]
/-! ### the best rows, finger by finger -/
abbrev lst (r : List Int) : Int := r.getLastD 0
def extP (s o : Int) (x : CR) : CR := (x.1 + (if crB (lst x.2) s o = true then 1 else 0), x.2 ++ [o])
def Hand.moreO (h : Hand) (s o : Int) (R : List CR) : List CR := (R.filter fun x => h.st (lst x.2) s o).map (extP s o)
def minO : List CR → List CR
  | [] => []
  | x :: l => [minP x l]
def Hand.stepB (h : Hand) (s : Int) (R : List CR) : List CR := FING.flatMap fun o => minO (h.moreO s o R)
def startB : List CR := [(0, [1]), (0, [2]), (0, [3]), (0, [4]), (0, [5])]
theorem gNe_cD0 (l : List CR) : gNe (.lst (l.map cD)) (.lst []) = some (.bl (!decide (l = []))) := by
  have h := alk_cD l
  unfold gNe
  rw [if_pos ⟨h.1, rfl⟩]
  cases l with
  | nil => rfl
  | cons x l => rfl
structure RowsOk (R : List CR) : Prop where
  len : R.length ≤ 5
  row : ∀ x ∈ R, ∃ l f, x.2 = l ++ [f] ∧ Fg f ∧ l.length ≤ 100
def bestIn : En → M Out := (fSeq (fAsg (.name 6) (fLc (fItA (fVar 2)) (.tup [(.name 9), (.name 10)]) (fTru (fCallM m_does_step 4 (fCons (fVar 0) (fCons (f2 gIxA (fBor 10) (f1 gNeg (fC (.int 1)))) (fCons (fVar 3) (fCons (fVar 5) fNil)))))) (fSz .tup (fCons (fVar 9) (fCons (fVar 10) fNil))) [9, 10]))
    (fSeq (fAsg (.name 7) (fLc (fItA (fVar 6)) (.tup [(.name 9), (.name 10)]) (fun _ => M.ret true) (fSz .tup (fCons (f2 gAdd (fBor 9) (fIfE (fTru (fCallM m_does_cross 3 (fCons (f2 gIxA (fBor 10) (f1 gNeg (fC (.int 1)))) (fCons (fVar 3) (fCons (fVar 5) fNil))))) (fC (.int 1)) (fC (.int 0)))) (fCons (f2 gAdd (fBor 10) (fSz .tup (fCons (fVar 5) fNil))) fNil))) [9, 10]))
    (fAsg (.name 4) (f2 gAdd (fBor 4) (fIfE (fB (f2 gNe (fBor 7) (fSz .lst fNil))) (fSz .lst (fCons (fN gMinL (fCons (fBor 7) fNil)) fNil)) (fSz .lst fNil))))))
theorem last_ix (l : List Int) (f : Int) : gIxA (iT (l ++ [f])) (.int (-1)) = some (.int f) := by
  rw [show iT (l ++ [f]) = D.tup (l.map D.int ++ [.int f]) by simp]
  exact gIxA_lastT _ _
theorem bestIn_run {h : Hand} (hh : h.Ok) {R acc : List CR} (hR : RowsOk R) (hacc : acc.length ≤ 100) {s o : Int} (ho : Fg o) {x1 x6 x7 x8 : Sl} {τ : Tau} :
    ∃ y6 y7, bestIn [.fz h.d, x1, .fz (.lst (R.map cD)), .fz (.int s), .fz (.lst (acc.map cD)), .fz (.int o), x6, x7, x8, .un, .un] τ =
      .ok (.next [.fz h.d, x1, .fz (.lst (R.map cD)), .fz (.int s), .fz (.lst ((acc ++ minO (h.moreO s o R)).map cD)), .fz (.int o), y6, y7, x8, .un, .un]) τ := by
  have hl5 := hR.len
  refine ⟨.fz (.lst ((R.filter fun x => h.st (lst x.2) s o).map cD)), .fz (.lst ((h.moreO s o R).map cD)), ?_⟩
  have e1 : fLc (fItA (fVar 2)) (.tup [(.name 9), (.name 10)]) (fTru (fCallM m_does_step 4 (fCons (fVar 0) (fCons (f2 gIxA (fBor 10) (f1 gNeg (fC (.int 1)))) (fCons (fVar 3) (fCons (fVar 5) fNil)))))) (fSz .tup (fCons (fVar 9) (fCons (fVar 10) fNil))) [9, 10] [.fz h.d, x1, .fz (.lst (R.map cD)), .fz (.int s), .fz (.lst (acc.map cD)), .fz (.int o), x6, x7, x8, .un, .un] τ = .ok (.lst ((R.filter fun x => h.st (lst x.2) s o).map cD)) τ := by
    rw [fLc_map cD R (fun x => h.st (lst x.2) s o) cD (by simp) (by show _ ≤ 1000000; omega) fun x hx => ?_]
    obtain ⟨l, f, e, hf, _⟩ := hR.row x hx
    obtain ⟨c, r⟩ := x
    have e : r = l ++ [f] := e
    subst e
    have e3 : lst (l ++ [f]) = f := by simp [lst]
    refine ⟨[.fz h.d, x1, .fz (.lst (R.map cD)), .fz (.int s), .fz (.lst (acc.map cD)), .fz (.int o), x6, x7, x8, .fz (.int c), .fz (iT (l ++ [f]))], by simp [cD, wipeE], ?_, fun _ => ?_⟩
    · simp only [fTru_r, fCallM_r, fCons_r, fVar_r, f2_r, f1_r, fBor_r, fC_r, fNil_r, List.getElem?_cons_zero, List.getElem?_cons_succ, opt_some_r, bd_ok, gNeg_int, last_ix, List.length_cons, List.length_nil, if_true, does_step_run hh hf ho, truD_bl, e3]
    · simp [cD]
  have e2 : ∀ x7, fLc (fItA (fVar 6)) (.tup [(.name 9), (.name 10)]) (fun _ => M.ret true) (fSz .tup (fCons (f2 gAdd (fBor 9) (fIfE (fTru (fCallM m_does_cross 3 (fCons (f2 gIxA (fBor 10) (f1 gNeg (fC (.int 1)))) (fCons (fVar 3) (fCons (fVar 5) fNil))))) (fC (.int 1)) (fC (.int 0)))) (fCons (f2 gAdd (fBor 10) (fSz .tup (fCons (fVar 5) fNil))) fNil))) [9, 10] [.fz h.d, x1, .fz (.lst (R.map cD)), .fz (.int s), .fz (.lst (acc.map cD)), .fz (.int o), .fz (.lst ((R.filter fun x => h.st (lst x.2) s o).map cD)), x7, x8, .un, .un] τ = .ok (.lst ((h.moreO s o R).map cD)) τ := by
    intro x7
    rw [fLc_all cD (R.filter fun x => h.st (lst x.2) s o) (fun x => cD (extP s o x)) (by simp) (by show _ ≤ 1000000; have := List.length_filter_le (fun x => h.st (lst x.2) s o) R; omega) fun x hx => ?_]
    · unfold Hand.moreO
      rw [List.map_map]
      rfl
    · obtain ⟨l, f, e, hf, hl⟩ := hR.row x (List.mem_filter.mp hx).1
      obtain ⟨c, r⟩ := x
      have e : r = l ++ [f] := e
      subst e
      have e3 : lst (l ++ [f]) = f := by simp [lst]
      have e4 : gAdd (iT (l ++ [f])) (.tup [.int o]) = some (iT (l ++ [f] ++ [o])) := by
        rw [gAdd_tup _ _ (by simp; omega)]
        simp
      refine ⟨[.fz h.d, x1, .fz (.lst (R.map cD)), .fz (.int s), .fz (.lst (acc.map cD)), .fz (.int o), .fz (.lst ((R.filter fun x => h.st (lst x.2) s o).map cD)), x7, x8, .fz (.int c), .fz (iT (l ++ [f]))], by simp [cD, wipeE], ?_⟩
      simp only [fSz_r, fCons_r, f2_r, f1_r, fBor_r, fIfE_r, fTru_r, fCallM_r, fVar_r, fC_r, fNil_r, List.getElem?_cons_zero, List.getElem?_cons_succ, opt_some_r, bd_ok, gNeg_int, last_ix, List.length_cons, List.length_nil, if_true, does_cross_run, truD_bl, SZ_eq, Nat.reduceAdd, Nat.reduceLeDiff, e4]
      unfold extP
      rw [e3]
      cases crB f s o <;> simp [cD]
  unfold bestIn
  rw [fSeq_r, fAsg_r, e1]
  simp only [bd_ok, bindD_name, List.set_cons_succ, List.set_cons_zero, opt_some_r, seqK_next, fSeq_r, fAsg_r]
  rw [e2]
  simp only [bd_ok, bindD_name, List.set_cons_succ, List.set_cons_zero, opt_some_r, seqK_next, fAsg_r, f2_r, fBor_r, fIfE_r, fB_r, fSz_r, fNil_r, fCons_r, fN_r, List.getElem?_cons_zero, List.getElem?_cons_succ, List.length_nil, List.length_cons, SZ_eq, Nat.zero_le, if_true, gNe_cD0, toB_r]
  cases q : h.moreO s o R with
  | nil =>
    have g0 : gAdd (.lst (acc.map cD)) (.lst []) = some (.lst (acc.map cD ++ [])) := gAdd_lst _ _ (by simp; omega)
    simp [g0, minO]
  | cons x l =>
    have g0 : gAdd (.lst (acc.map cD)) (.lst [cD (minP x l)]) = some (.lst (acc.map cD ++ [cD (minP x l)])) := gAdd_lst _ _ (by simp; omega)
    have gm := gMin_cD x l
    simp only [gm, List.map_cons] at *
    simp [gm, g0, minO]
theorem minO_len (l : List CR) : (minO l).length ≤ 1 := by cases l <;> simp [minO]
theorem bestIn_loop {h : Hand} (hh : h.Ok) {R : List CR} (hR : RowsOk R) {s : Int} {x1 x8 : Sl} {τ : Tau} : ∀ (fs : List Int) (acc : List CR) (x5 x6 x7 : Sl), (∀ o ∈ fs, Fg o) → acc.length + fs.length ≤ 100 →
    ∃ y5 y6 y7, loopF (.name 5) bestIn (fs.map .int) [.fz h.d, x1, .fz (.lst (R.map cD)), .fz (.int s), .fz (.lst (acc.map cD)), x5, x6, x7, x8, .un, .un] τ =
      .ok (.next [.fz h.d, x1, .fz (.lst (R.map cD)), .fz (.int s), .fz (.lst ((acc ++ fs.flatMap fun o => minO (h.moreO s o R)).map cD)), y5, y6, y7, x8, .un, .un]) τ
  | [], acc, x5, x6, x7, _, _ => ⟨x5, x6, x7, by simp⟩
  | o :: fs, acc, x5, x6, x7, hf, hl => by
    simp only [List.length_cons] at hl
    have m1 := minO_len (h.moreO s o R)
    obtain ⟨y6, y7, e1⟩ := bestIn_run hh hR (acc := acc) (by omega) (s := s) (hf o List.mem_cons_self) (x1 := x1) (x6 := x6) (x7 := x7) (x8 := x8) (τ := τ)
    obtain ⟨z5, z6, z7, e2⟩ := bestIn_loop hh hR (s := s) (x1 := x1) (x8 := x8) (τ := τ) fs (acc ++ minO (h.moreO s o R)) (.fz (.int o)) y6 y7 (fun o' h' => hf o' (List.mem_cons_of_mem _ h')) (by rw [List.length_append]; omega)
    refine ⟨z5, z6, z7, ?_⟩
    simp only [List.map_cons, loopF_cons, bindD_name, opt_some_r, bd_ok, List.set_cons_succ, List.set_cons_zero, e1, loopK_next]
    rw [e2, List.flatMap_cons, List.append_assoc]
def bestB : En → M Out := (fSeq (fAsg (.name 4) (fSz .lst fNil))
    (fSeq (fFor (fItA (fC c_FINGERS)) (.name 5) bestIn)
    (fAsg (.name 2) (fVar 4))))
theorem stepB_ok {h : Hand} {R : List CR} {n : Nat} (hR : ∀ x ∈ R, ∃ l f, x.2 = l ++ [f] ∧ Fg f ∧ l.length ≤ n) {s : Int} : (h.stepB s R).length ≤ 5 ∧ ∀ x ∈ h.stepB s R, ∃ l f, x.2 = l ++ [f] ∧ Fg f ∧ l.length ≤ n + 1 := by
  constructor
  · have key : ∀ fs : List Int, (fs.flatMap fun o => minO (h.moreO s o R)).length ≤ fs.length := by
      intro fs
      induction fs with
      | nil => simp
      | cons o fs ih =>
        have := minO_len (h.moreO s o R)
        rw [List.flatMap_cons, List.length_append, List.length_cons]
        omega
    exact key FING
  · intro x hx
    obtain ⟨o, ho, hm⟩ := List.mem_flatMap.mp hx
    cases q : h.moreO s o R with
    | nil => rw [q] at hm; cases hm
    | cons y l =>
      rw [q] at hm
      have : x ∈ h.moreO s o R := by rw [q, List.mem_singleton.mp hm]; exact minP_mem l y
      obtain ⟨z, hz, rfl⟩ := List.mem_map.mp this
      obtain ⟨l', f, e, hf, hl⟩ := hR z (List.mem_filter.mp hz).1
      exact ⟨z.2, o, rfl, fing_fg.mp ho, by rw [e, List.length_append, List.length_singleton]; omega⟩
theorem best_loop {h : Hand} (hh : h.Ok) {x1 : Sl} {τ : Tau} : ∀ (p : List Int) (R : List CR) (n : Nat) (x3 x4 x5 x6 x7 x8 : Sl), R.length ≤ 5 → (∀ x ∈ R, ∃ l f, x.2 = l ++ [f] ∧ Fg f ∧ l.length ≤ n) → n + p.length ≤ 100 →
    ∃ y3 y4 y5 y6 y7, loopF (.name 3) bestB (p.map .int) [.fz h.d, x1, .fz (.lst (R.map cD)), x3, x4, x5, x6, x7, x8, .un, .un] τ = .ok (.next [.fz h.d, x1, .fz (.lst ((p.foldl (fun R s => h.stepB s R) R).map cD)), y3, y4, y5, y6, y7, x8, .un, .un]) τ
  | [], R, n, x3, x4, x5, x6, x7, x8, _, _, _ => ⟨x3, x4, x5, x6, x7, rfl⟩
  | s :: p, R, n, x3, x4, x5, x6, x7, x8, h5, hR, hn => by
    simp only [List.length_cons] at hn
    have rok : RowsOk R := ⟨h5, fun x hx => by
      obtain ⟨l, f, e, hf, hl⟩ := hR x hx
      exact ⟨l, f, e, hf, by omega⟩⟩
    obtain ⟨y5, y6, y7, e1⟩ := bestIn_loop hh rok (s := s) (x1 := x1) (x8 := x8) (τ := τ) FING [] x5 x6 x7 (fun o ho => fing_fg.mp ho) (by decide)
    obtain ⟨k1, k2⟩ := stepB_ok (h := h) hR (s := s)
    obtain ⟨z3, z4, z5, z6, z7, e2⟩ := best_loop hh (x1 := x1) (τ := τ) p (h.stepB s R) (n + 1) (.fz (.int s)) (.fz (.lst ((h.stepB s R).map cD))) y5 y6 y7 x8 k1 k2 (by omega)
    refine ⟨z3, z4, z5, z6, z7, ?_⟩
    have e3 : bestB [.fz h.d, x1, .fz (.lst (R.map cD)), .fz (.int s), x4, x5, x6, x7, x8, .un, .un] τ = .ok (.next [.fz h.d, x1, .fz (.lst ((h.stepB s R).map cD)), .fz (.int s), .fz (.lst ((h.stepB s R).map cD)), y5, y6, y7, x8, .un, .un]) τ := by
      unfold bestB
      have ef : items0 c_FINGERS = some (FING.map .int) := rfl
      simp only [fSeq_r, fAsg_r, fSz_r, fNil_r, bd_ok, List.length_nil, SZ_eq, Nat.zero_le, if_true, bindD_name, opt_some_r, List.set_cons_succ, List.set_cons_zero, seqK_next, fFor_r, fItA_r, fC_r, ef]
      have e1 : loopF (.name 5) bestIn (FING.map .int) [.fz h.d, x1, .fz (.lst (R.map cD)), .fz (.int s), .fz (.lst []), x5, x6, x7, x8, .un, .un] τ = _ := e1
      rw [e1]
      simp [Hand.stepB]
    simp only [List.map_cons, loopF_cons, bindD_name, opt_some_r, bd_ok, List.set_cons_succ, List.set_cons_zero, e3, loopK_next, List.foldl_cons]
    exact e2
end KF
set_option maxHeartbeats 1000000
/-! KML: the best fingering. -/
namespace KF
open L2
def optC : Option CR → D
  | none => .non
  | some x => cD x
def Hand.bestL (h : Hand) (p : List Int) : List CR := p.foldl (fun R s => h.stepB s R) startB
def Hand.best (h : Hand) (p : List Int) : Option CR := if p = [] then some (0, []) else (minO (h.bestL (stepsIn p))).head?
def bestE : En → M Out := (fRet (fIfE (fB (f2 gNe (fBor 2) (fSz .lst fNil))) (fN gMinL (fCons (fBor 2) fNil)) (fC .non)))
def bestS : En → M Out := (fAsg (.name 2) (fLc (fItA (fC c_FINGERS)) (.name 8) (fun _ => M.ret true) (fSz .tup (fCons (fC (.int 0)) (fCons (fSz .tup (fCons (fVar 8) fNil)) fNil))) [8]))
def bestI : En → M Out := (fIf (fB (f2 gEq (fBor 1) (fSz .tup fNil)))
    (fRet (fSz .tup (fCons (fC (.int 0)) (fCons (fSz .tup fNil) fNil))))
    fNext)
def B_bst : Fs := fun _ => fSeq bestI (fSeq bestS (fSeq (fFor (fItA (fCallM m_steps_in 1 (fCons (fVar 1) fNil))) (.name 3) bestB) bestE))
theorem bst_eq : m_best_of = mOf B_bst 11 := rfl
theorem best_of_run {h : Hand} (hh : h.Ok) {p : List Int} (hl : p.length ≤ 12) (τ : Tau) : m_best_of [h.d, iT p] τ = .ok (optC (h.best p)) τ := by
  rw [bst_eq, mOf_r]
  show (B_bst FUEL [.fz h.d, .fz (iT p), .un, .un, .un, .un, .un, .un, .un, .un, .un] τ).bd _ = _
  unfold B_bst
  by_cases n : p = []
  · subst n
    rfl
  · have e1 : bestI [.fz h.d, .fz (iT p), .un, .un, .un, .un, .un, .un, .un, .un, .un] τ = .ok (.next [.fz h.d, .fz (iT p), .un, .un, .un, .un, .un, .un, .un, .un, .un]) τ := by
      unfold bestI
      simp [n]
    have e2 : bestS [.fz h.d, .fz (iT p), .un, .un, .un, .un, .un, .un, .un, .un, .un] τ = .ok (.next [.fz h.d, .fz (iT p), .fz (.lst (startB.map cD)), .un, .un, .un, .un, .un, .un, .un, .un]) τ := by
      unfold bestS
      rw [fAsg_r, fLc_all D.int FING (fun f => cD (0, [f])) (by rfl) (by decide) fun f _ => ⟨_, bindD_name _ _ _, by simp [wipeE, cD]⟩]
      rfl
    have hs := stepsIn_len p
    obtain ⟨y3, y4, y5, y6, y7, e3⟩ := best_loop hh (x1 := .fz (iT p)) (τ := τ) (stepsIn p) startB 0 .un .un .un .un .un .un (by decide) (by
      intro x hx
      simp only [startB, List.mem_cons, List.not_mem_nil, or_false] at hx
      rcases hx with rfl | rfl | rfl | rfl | rfl
      · exact ⟨[], 1, rfl, by decide, by decide⟩
      · exact ⟨[], 2, rfl, by decide, by decide⟩
      · exact ⟨[], 3, rfl, by decide, by decide⟩
      · exact ⟨[], 4, rfl, by decide, by decide⟩
      · exact ⟨[], 5, rfl, by decide, by decide⟩) (by omega)
    have e4 : (fItA (fCallM m_steps_in 1 (fCons (fVar 1) fNil))) [.fz h.d, .fz (iT p), .fz (.lst (startB.map cD)), .un, .un, .un, .un, .un, .un, .un, .un] τ = .ok ((stepsIn p).map .int) τ := by
      simp [steps_in_run p (by omega)]
    rw [fSeq_r, e1, bd_ok, seqK_next, fSeq_r, e2, bd_ok, seqK_next, fSeq_r, fFor_r, e4, bd_ok, e3, bd_ok, seqK_next]
    unfold Hand.best
    rw [if_neg n]
    show (bestE [_, _, .fz (.lst ((h.bestL (stepsIn p)).map cD)), _, _, _, _, _, _, _, _] τ).bd _ = _
    unfold bestE
    cases q : h.bestL (stepsIn p) with
    | nil => rfl
    | cons x l =>
      have g1 : gNe (.lst ((x :: l).map cD)) (.lst []) = some (.bl true) := by rw [gNe_cD0]; rfl
      have g2 := gMin_cD x l
      simp only [fRet_r, fIfE_r, fB_r, f2_r, fBor_r, fSz_r, fNil_r, List.getElem?_cons_zero, List.getElem?_cons_succ, opt_some_r, bd_ok, List.length_nil, SZ_eq, Nat.zero_le, if_true, g1, toB_r, fN_r, fCons_r, g2, outD_ret]
      rfl
/-! ### it is the least of all -/
structure BInv (h : Hand) (p : List Int) (R : List CR) : Prop where
  row : ∀ x ∈ R, h.Row p x.2 ∧ x.1 = cr p x.2
  all : ∀ r f, h.Row p (r ++ [f]) → ∃ x ∈ R, (∃ l, x.2 = l ++ [f]) ∧ ltP (cr p (r ++ [f]), r ++ [f]) x = false
theorem Hand.row_snoc {h : Hand} {p r : List Int} {s f o : Int} (x : h.Row p (r ++ [f])) (hs : h.st f s o = true) (ho : Fg o) : h.Row (p ++ [s]) (r ++ [f] ++ [o]) := by
  have y : h.Row [s] (f :: [o]) := ⟨x.fg f (by simp), hs, ho⟩
  have := Hand.Row.app y x
  simpa using this
theorem Hand.row_unsnoc {h : Hand} {p r : List Int} {s : Int} (x : h.Row (p ++ [s]) r) : ∃ r' f o, r = r' ++ [f] ++ [o] ∧ h.Row p (r' ++ [f]) ∧ h.st f s o = true ∧ Fg o := by
  have hl := x.len
  rw [List.length_append, List.length_singleton] at hl
  have n1 : r ≠ [] := fun z => by rw [z, List.length_nil] at hl; omega
  obtain ⟨u, o, rfl⟩ := snocI n1
  have n2 : u ≠ [] := fun z => by rw [z] at hl; simp at hl
  obtain ⟨r', f, rfl⟩ := snocI n2
  have hl2 : (r' ++ [f]).length = p.length + 1 := by simp at hl ⊢; omega
  have t := x.take p.length
  rw [List.take_left' rfl, List.take_left' hl2] at t
  have d := x.drop p.length (by simp)
  rw [List.drop_left' rfl] at d
  have hr' : r'.length = p.length := by simp at hl2; exact hl2
  have e : (r' ++ [f] ++ [o]).drop p.length = [f, o] := by
    rw [List.append_assoc, List.drop_left' hr']
    rfl
  rw [e] at d
  exact ⟨r', f, o, rfl, t, d.2.1, d.2.2⟩
theorem BInv.start {h : Hand} : BInv h [] startB := by
  constructor
  · intro x hx
    simp only [startB, List.mem_cons, List.not_mem_nil, or_false] at hx
    rcases hx with rfl | rfl | rfl | rfl | rfl <;> exact ⟨by show Fg _; decide, rfl⟩
  · intro r f x
    have hl := x.len
    simp at hl
    subst hl
    have hf : Fg f := x
    refine ⟨(0, [f]), ?_, ⟨[], rfl⟩, ltP_self _⟩
    rcases hf.cases with rfl | rfl | rfl | rfl | rfl <;> simp [startB]
theorem BInv.step {h : Hand} {p : List Int} {R : List CR} {s : Int} (b : BInv h p R) : BInv h (p ++ [s]) (h.stepB s R) := by
  have more : ∀ o, Fg o → ∀ x ∈ h.moreO s o R, h.Row (p ++ [s]) x.2 ∧ x.1 = cr (p ++ [s]) x.2 ∧ ∃ l, x.2 = l ++ [o] := by
    intro o ho x hx
    obtain ⟨z, hz, rfl⟩ := List.mem_map.mp hx
    obtain ⟨hz1, hz2⟩ := List.mem_filter.mp hz
    obtain ⟨x1, x2⟩ := b.row z hz1
    have n : z.2 ≠ [] := fun e => by rw [e] at x1; cases p <;> exact x1.elim
    obtain ⟨l, f, e⟩ := snocI n
    have hl := x1.len
    rw [e] at x1 x2 hz2 hl
    have hz2 : h.st f s o = true := by simpa [lst] using hz2
    refine ⟨?_, ?_, z.2, rfl⟩
    · show h.Row (p ++ [s]) (z.2 ++ [o])
      rw [e]
      exact Hand.row_snoc x1 hz2 ho
    · show z.1 + (if crB (lst z.2) s o = true then 1 else 0) = cr (p ++ [s]) (z.2 ++ [o])
      rw [e, cr_snoc p l s f o hl, ← x2]
      simp [lst]
  constructor
  · intro x hx
    obtain ⟨o, ho, hm⟩ := List.mem_flatMap.mp hx
    cases q : h.moreO s o R with
    | nil => rw [q] at hm; cases hm
    | cons y l =>
      rw [q] at hm
      have : x ∈ h.moreO s o R := by rw [q, List.mem_singleton.mp hm]; exact minP_mem l y
      obtain ⟨h1, h2, _⟩ := more o (fing_fg.mp ho) x this
      exact ⟨h1, h2⟩
  · intro r o x
    obtain ⟨r', f, o', e, x1, st, ho⟩ := Hand.row_unsnoc x
    obtain ⟨e1, e2⟩ := List.append_inj' e rfl
    have e2 : o = o' := by simpa using e2
    subst e1 e2
    obtain ⟨z, hz, ⟨l, el⟩, hlt⟩ := b.all r' f x1
    obtain ⟨z1, z2⟩ := b.row z hz
    have hin : extP s o z ∈ h.moreO s o R := List.mem_map.mpr ⟨z, List.mem_filter.mpr ⟨hz, by rw [el]; simpa [lst] using st⟩, rfl⟩
    cases q : h.moreO s o R with
    | nil => rw [q] at hin; cases hin
    | cons y t =>
      refine ⟨minP y t, List.mem_flatMap.mpr ⟨o, fing_fg.mpr ho, by rw [q]; exact List.mem_singleton.mpr rfl⟩, ?_, ?_⟩
      · exact (more o ho (minP y t) (by rw [q]; exact minP_mem t y)).2.2
      · have h1 : ltP (cr (p ++ [s]) (r' ++ [f] ++ [o]), r' ++ [f] ++ [o]) (extP s o z) = false := by
          have hl1 := x1.len
          have hl2 := z1.len
          rw [cr_snoc p r' s f o hl1]
          have e3 : extP s o z = (z.1 + (if crB f s o = true then 1 else 0), z.2 ++ [o]) := by
            unfold extP
            rw [el]
            simp [lst]
          rw [e3]
          have := ltP_ext (x := (cr p (r' ++ [f]), r' ++ [f])) (y := z) (d := if crB f s o = true then 1 else 0) (o := o) (by rw [hl2]; exact hl1)
          rw [this]
          exact hlt
        have h2 : ltP (extP s o z) (minP y t) = false := minP_le t y _ (by rw [← q]; exact hin)
        exact ltP_neg h1 h2
theorem BInv.fold {h : Hand} : ∀ (q p : List Int) (R : List CR), BInv h p R → BInv h (p ++ q) (q.foldl (fun R s => h.stepB s R) R)
  | [], p, R, b => by simpa using b
  | s :: q, p, R, b => by
    have := BInv.fold q (p ++ [s]) (h.stepB s R) b.step
    rw [List.append_assoc] at this
    exact this
theorem Hand.bestL_inv (h : Hand) (p : List Int) : BInv h p (h.bestL p) := by
  have := BInv.fold p [] startB (BInv.start (h := h))
  rw [List.nil_append] at this
  exact this
/-- the least pair of all rows -/
theorem Hand.best_spec {h : Hand} {p : List Int} : (h.best p = none ↔ h.rows p = []) ∧ ∀ x, h.best p = some x → x.2 ∈ h.rows p ∧ x.1 = cr (stepsIn p) x.2 ∧ ∀ r ∈ h.rows p, ltP (cr (stepsIn p) r, r) x = false := by
  unfold Hand.best
  by_cases n : p = []
  · subst n
    rw [if_pos rfl]
    refine ⟨by simp [Hand.rows], fun x e => ?_⟩
    cases e
    refine ⟨by simp [Hand.rows], rfl, fun r hr => ?_⟩
    have : r = [] := by simpa [Hand.rows] using hr
    subst this
    rfl
  · rw [if_neg n]
    have b := h.bestL_inv (stepsIn p)
    have hr : h.rows p = h.allR (stepsIn p) := by unfold Hand.rows; rw [if_neg n]
    rw [hr]
    cases q : h.bestL (stepsIn p) with
    | nil =>
      refine ⟨⟨fun _ => ?_, fun _ => rfl⟩, fun x e => by cases e⟩
      rw [List.eq_nil_iff_forall_not_mem]
      intro r hr
      have x := Hand.mem_allR.mp hr
      have n1 : r ≠ [] := fun z => by rw [z] at x; cases h2 : stepsIn p <;> rw [h2] at x <;> exact x.elim
      obtain ⟨u, f, rfl⟩ := snocI n1
      obtain ⟨z, hz, _⟩ := b.all u f x
      rw [q] at hz
      cases hz
    | cons y t =>
      have hm : minP y t ∈ h.bestL (stepsIn p) := by rw [q]; exact minP_mem t y
      obtain ⟨m1, m2⟩ := b.row _ hm
      refine ⟨Iff.intro (fun z => by simp [minO] at z) (fun z => ?_), fun x e => ?_⟩
      · have := Hand.mem_allR.mpr m1
        rw [z] at this
        cases this
      · have e : minP y t = x := by simpa [minO] using e
        subst e
        refine ⟨Hand.mem_allR.mpr m1, m2, fun r hr => ?_⟩
        have x := Hand.mem_allR.mp hr
        have n1 : r ≠ [] := fun z => by rw [z] at x; cases h2 : stepsIn p <;> rw [h2] at x <;> exact x.elim
        obtain ⟨u, f, rfl⟩ := snocI n1
        obtain ⟨z, hz, _, hlt⟩ := b.all u f x
        exact ltP_neg hlt (minP_le t y z (by rw [← q]; exact hz))
theorem fewest_run {h : Hand} (hh : h.Ok) {p : List Int} (hp : Psg p) (τ : Tau) : m_fewest_crossings [h.d, iT p] τ = .ok (match h.best p with | none => .non | some x => .int x.1) τ := by
  have e := best_of_run hh hp.len τ
  cases q : h.best p with
  | none =>
    rw [q] at e
    have e : m_best_of [h.d, iT p] τ = .ok .non τ := e
    simp [m_fewest_crossings, B_fewest_crossings, check_both_run hh hp, e, isNon]
  | some x =>
    rw [q] at e
    have e : m_best_of [h.d, iT p] τ = .ok (.tup [.int x.1, iT x.2]) τ := e
    simp [m_fewest_crossings, B_fewest_crossings, check_both_run hh hp, e, isNon, gIxA_0]
theorem best_fing_run {h : Hand} (hh : h.Ok) {p : List Int} (hp : Psg p) (τ : Tau) : m_best_fingering [h.d, iT p] τ = .ok (match h.best p with | none => .non | some x => iT x.2) τ := by
  have e := best_of_run hh hp.len τ
  cases q : h.best p with
  | none =>
    rw [q] at e
    have e : m_best_of [h.d, iT p] τ = .ok .non τ := e
    simp [m_best_fingering, B_best_fingering, check_both_run hh hp, e, isNon]
  | some x =>
    rw [q] at e
    have e : m_best_of [h.d, iT p] τ = .ok (.tup [.int x.1, iT x.2]) τ := e
    simp [m_best_fingering, B_best_fingering, check_both_run hh hp, e, isNon, gIxA_1]
/-! ### the first of the sorted ones -/
theorem sortP_head {l : List CR} : (l = [] → sortP l = []) ∧ ∀ x t, sortP l = x :: t → x ∈ l ∧ ∀ y ∈ l, ltP y x = false := by
  refine ⟨fun e => by rw [e]; simp [sortP], fun x t e => ?_⟩
  have hp : (sortP l).Perm l := List.mergeSort_perm _ _
  have hs : (sortP l).Pairwise fun a b => (!ltP b a) = true := List.pairwise_mergeSort (fun a b c h1 h2 => by
    simp only [Bool.not_eq_true'] at *
    exact ltP_neg h2 h1) (fun a b => by
    cases q : ltP b a with
    | false => rfl
    | true => simp [ltP_asym q]) l
  rw [e] at hp hs
  refine ⟨hp.mem_iff.mp List.mem_cons_self, fun y hy => ?_⟩
  rcases List.mem_cons.mp (hp.mem_iff.mpr hy) with rfl | m
  · exact ltP_self _
  · have := List.rel_of_pairwise_cons hs m
    simpa using this
theorem sortP_best {h : Hand} {p : List Int} : (sortP ((h.rows p).map fun r => (cr (stepsIn p) r, r))).head? = h.best p := by
  obtain ⟨b1, b2⟩ := Hand.best_spec (h := h) (p := p)
  have hp : (sortP ((h.rows p).map fun r => (cr (stepsIn p) r, r))).Perm ((h.rows p).map fun r => (cr (stepsIn p) r, r)) := List.mergeSort_perm _ _
  cases q : sortP ((h.rows p).map fun r => (cr (stepsIn p) r, r)) with
  | nil =>
    rw [q] at hp
    have := hp.symm.eq_nil
    have e : h.rows p = [] := by simpa using this
    rw [b1.mpr e]
    rfl
  | cons x t =>
    obtain ⟨m, hl⟩ := sortP_head.2 x t q
    obtain ⟨r, hr, rfl⟩ := List.mem_map.mp m
    cases qb : h.best p with
    | none => rw [b1.mp qb] at hr; cases hr
    | some y =>
      obtain ⟨y1, y2, y3⟩ := b2 y qb
      have k1 := hl (cr (stepsIn p) y.2, y.2) (List.mem_map.mpr ⟨y.2, y1, rfl⟩)
      rw [← y2] at k1
      have k2 := y3 r hr
      rw [List.head?_cons, ltP_tot k2 k1]
end KF
set_option maxHeartbeats 1000000
/-! KMN: crossings of parts, of passages turned round, of rising ones. -/
namespace KF
open L2
/-! ### the first fingering is the least row -/
theorem pw_head {l : List Int} {k : Int} {r : List Int} (h : l.Pairwise (· < ·)) (e : l = k :: r) : ∀ x ∈ l, k ≤ x := by
  intro x hx
  rw [e] at h hx
  rcases List.mem_cons.mp hx with rfl | m
  · exact Int.le_refl _
  · have := List.rel_of_pairwise_cons h m; omega
theorem Hand.gr_min {h : Hand} : ∀ {p t : List Int} {g : Int}, h.Row p (g :: t) → ltR (g :: t) (h.gr p g) = false
  | [], t, g, x => by
    cases t with
    | nil => simp [Hand.gr, ltR]
    | cons a t => exact x.elim
  | s :: p, t, g, x => by
    cases t with
    | nil => exact x.elim
    | cons k' t' =>
      obtain ⟨hg, st, x'⟩ := x
      obtain ⟨l0, e0, _, he0, w0⟩ := x'.wk
      have cn : h.Cn (s :: p) g := ⟨e0, he0, k', x'.fg k' List.mem_cons_self, st, w0⟩
      obtain ⟨k, r, e, hk, st2, cn2⟩ := Hand.gr_next cn
      have hk' := x'.fg k' List.mem_cons_self
      have mem : k' ∈ (h.af [g] s).filter fun o => decide (o ∈ h.B p) := List.mem_filter.mpr ⟨Hand.mem_af1.mpr ⟨hk', st⟩, by simpa using Hand.mem_B.mpr ⟨hk', e0, he0, w0⟩⟩
      have le := pw_head ((h.af_pw [g] s).filter _) e k' mem
      rw [Hand.gr, e, List.headD_cons]
      have goal : ltR (k' :: t') (h.gr p k) = false := by
        by_cases c : k = k'
        · subst c
          exact Hand.gr_min x'
        · obtain ⟨q, eq⟩ := h.gr_head p k
          rw [eq, ltR]
          have h1 : decide (k' < k) = false := by simp; omega
          have h2 : decide (k < k') = true := by simp; omega
          rw [h1, h2]
          rfl
      rw [ltR, goal]
      simp
theorem Hand.firstO_min {h : Hand} {p r0 : List Int} (e : h.firstO p = some r0) {r : List Int} (x : h.Row p r) : ltR r r0 = false := by
  unfold Hand.firstO at e
  split at e
  · cases e
  · rename_i g t q
    cases e
    cases r with
    | nil => cases p <;> exact x.elim
    | cons f u =>
      obtain ⟨l0, e0, _, he0, w0⟩ := x.wk
      have hf := x.fg f List.mem_cons_self
      have mem : f ∈ FING.filter fun f => decide (f ∈ h.B p) := List.mem_filter.mpr ⟨fing_fg.mpr hf, by simpa using Hand.mem_B.mpr ⟨hf, e0, he0, w0⟩⟩
      have le := pw_head (fing_pw.filter _) q f mem
      by_cases c : g = f
      · subst c
        exact Hand.gr_min x
      · obtain ⟨w, eq⟩ := h.gr_head p g
        rw [eq, ltR]
        have h1 : decide (f < g) = false := by simp; omega
        have h2 : decide (g < f) = true := by simp; omega
        rw [h1, h2]
        rfl
theorem Hand.ff_min {h : Hand} {p r0 r : List Int} (e : h.ff p = some r0) (hr : r ∈ h.rows p) : ltR r r0 = false := by
  unfold Hand.ff at e
  unfold Hand.rows at hr
  split at e
  · rename_i n
    rw [if_pos n] at hr
    cases e
    rw [List.mem_singleton.mp hr]
    rfl
  · rename_i n
    rw [if_neg n] at hr
    exact Hand.firstO_min e (Hand.mem_allR.mp hr)
theorem Hand.ff_mem {h : Hand} {p r0 : List Int} (e : h.ff p = some r0) : r0 ∈ h.rows p := by
  rw [← Hand.rows_head] at e
  exact List.mem_of_mem_head? e
/-! ### numbers of crossings -/
theorem cr_nn : ∀ (p r : List Int), 0 ≤ cr p r
  | [], r => by cases r <;> simp [cr]
  | s :: p, [] => by simp [cr]
  | s :: p, [f] => by simp [cr]
  | s :: p, f :: g :: r => by
    have := cr_nn p (g :: r)
    rw [cr]
    split <;> omega
theorem cr_le : ∀ (p r : List Int), cr p r ≤ p.length
  | [], r => by cases r <;> simp [cr]
  | s :: p, [] => by simp [cr]; omega
  | s :: p, [f] => by simp [cr]; omega
  | s :: p, f :: g :: r => by
    have := cr_le p (g :: r)
    rw [cr, List.length_cons]
    split <;> omega
theorem cr_tail (p r : List Int) : cr p.tail r.tail ≤ cr p r := by
  cases p with
  | nil =>
    cases r with
    | nil => simp [cr]
    | cons f r => simp [cr]
  | cons s p =>
    match r with
    | [] => simp [cr]
    | [f] => simp [cr]
    | f :: g :: r =>
      show cr p (g :: r) ≤ cr (s :: p) (f :: g :: r)
      rw [cr]
      split <;> omega
theorem cr_cut : ∀ (c : Nat) (p r : List Int), cr (p.take c) (r.take (c + 1)) + cr (p.drop c) (r.drop c) = cr p r
  | 0, p, r => by
    have : cr (p.take 0) (r.take 1) = 0 := by rw [List.take_zero]; cases r.take 1 <;> simp [cr]
    rw [this]
    simp
  | c + 1, [], r => by
    simp only [List.take_nil, List.drop_nil]
    have h1 : ∀ l : List Int, cr [] l = 0 := fun l => by cases l <;> simp [cr]
    rw [h1, h1, h1]
    rfl
  | c + 1, s :: p, [] => by simp [cr]
  | c + 1, s :: p, [f] => by
    have h2 : ∀ l : List Int, cr l [] = 0 := fun l => by cases l <;> simp [cr]
    have h3 : ∀ (l : List Int) (a : Int), cr l [a] = 0 := fun l a => by cases l <;> simp [cr]
    simp [h2, h3]
  | c + 1, s :: p, f :: g :: r => by
    have ih := cr_cut c p (g :: r)
    rw [List.take_succ_cons, List.drop_succ_cons, List.take_succ_cons, List.drop_succ_cons]
    rw [List.take_succ_cons] at ih ⊢
    rw [cr, cr]
    omega
theorem crB_zero (f o : Int) : crB f 0 o = false := by
  unfold crB
  split <;> simp
theorem crB_back (f s g : Int) : crB g (-s) f = crB f s g := by
  unfold crB
  rw [Bool.eq_iff_iff]
  simp only [Bool.and_eq_true, decide_eq_true_eq, Bool.not_eq_true', decide_eq_false_iff_not]
  split <;> split <;> omega
theorem cr_back : ∀ (p r : List Int), r.length = p.length + 1 → cr (turnB p) r.reverse = cr p r
  | [], r, h => by
    match r, h with
    | [f], _ => rfl
  | s :: p, [], h => by simp at h
  | s :: p, [f], h => by simp at h
  | s :: p, f :: g :: r, h => by
    have ih := cr_back p (g :: r) (by simpa using h)
    rw [turnB_cons, List.reverse_cons, List.reverse_cons, cr_snoc _ _ _ _ _ (by rw [turnB_length]; simpa using h)]
    rw [List.reverse_cons] at ih
    rw [ih, cr, crB_back]
    omega
theorem stepsIn_rev : ∀ p : List Int, stepsIn p.reverse = turnB (stepsIn p)
  | [] => rfl
  | [a] => rfl
  | a :: b :: p => by
    have ih := stepsIn_rev (b :: p)
    rw [List.reverse_cons, List.reverse_cons, stepsIn_snoc]
    rw [List.reverse_cons] at ih
    rw [ih, stepsIn_cons, turnB_cons]
    congr 2
    omega
theorem Hand.rows_back {h : Hand} {p r : List Int} (hr : r ∈ h.rows p) : r.reverse ∈ h.rows p.reverse := by
  unfold Hand.rows at hr ⊢
  by_cases n : p = []
  · subst n
    rw [if_pos rfl, List.mem_singleton] at hr
    subst hr
    simp
  · rw [if_neg n] at hr
    rw [if_neg (by simpa using n), stepsIn_rev]
    exact Hand.mem_allR.mpr (Hand.mem_allR.mp hr).back
theorem Hand.best_le {h : Hand} {p r : List Int} (hr : r ∈ h.rows p) : ∃ x, h.best p = some x ∧ x.1 ≤ cr (stepsIn p) r ∧ x.2 ∈ h.rows p ∧ x.1 = cr (stepsIn p) x.2 := by
  obtain ⟨b1, b2⟩ := Hand.best_spec (h := h) (p := p)
  cases q : h.best p with
  | none => rw [b1.mp q] at hr; cases hr
  | some x =>
    obtain ⟨m1, m2, m3⟩ := b2 x q
    refine ⟨x, rfl, ?_, m1, m2⟩
    have := ltP_iff.mp (m3 r hr)
    dsimp only at this
    omega
/-- parts -/
theorem Hand.rows_take {h : Hand} {p r : List Int} (hr : r ∈ h.rows p) (c : Nat) : r.take c ∈ h.rows (p.take c) := by
  obtain ⟨l, f, pl⟩ := Hand.mem_rows.mp hr
  refine Hand.mem_rows.mpr ?_
  have l1 : (r.take c).length = (p.take c).length := by rw [List.length_take, List.length_take, l]
  have := fingB_of (h := h) l1 fun n => ?_
  · simp only [Bool.and_eq_true, decide_eq_true_eq] at this
    exact ⟨this.1, this.2.1, this.2.2⟩
  · cases c with
    | zero => simp at n
    | succ m =>
      have np : p ≠ [] := fun z => by rw [z] at n; simp at n
      rw [stepsIn_take]
      have x : h.Row (stepsIn p) r := by
        unfold Hand.rows at hr
        rw [if_neg np] at hr
        exact Hand.mem_allR.mp hr
      exact x.take m
theorem Hand.rows_drop {h : Hand} {p r : List Int} (hr : r ∈ h.rows p) (c : Nat) : r.drop c ∈ h.rows (p.drop c) := by
  obtain ⟨l, f, pl⟩ := Hand.mem_rows.mp hr
  refine Hand.mem_rows.mpr ?_
  have l1 : (r.drop c).length = (p.drop c).length := by rw [List.length_drop, List.length_drop, l]
  have := fingB_of (h := h) l1 fun n => ?_
  · simp only [Bool.and_eq_true, decide_eq_true_eq] at this
    exact ⟨this.1, this.2.1, this.2.2⟩
  · have np : p ≠ [] := fun z => by rw [z] at n; simp at n
    have hc : c < p.length := by
      rcases Nat.lt_or_ge c p.length with y | y
      · exact y
      · exact (n (List.drop_eq_nil_of_le y)).elim
    rw [stepsIn_drop]
    have x : h.Row (stepsIn p) r := by
      unfold Hand.rows at hr
      rw [if_neg np] at hr
      exact Hand.mem_allR.mp hr
    exact x.drop c (by rw [stepsIn_len]; omega)
theorem cr_parts {p r : List Int} (c : Nat) : cr (stepsIn (p.take c)) (r.take c) + cr (stepsIn (p.drop c)) (r.drop c) ≤ cr (stepsIn p) r := by
  cases c with
  | zero =>
    rw [List.take_zero, List.take_zero, List.drop_zero, List.drop_zero]
    simp [cr]
  | succ m =>
    rw [stepsIn_take, stepsIn_drop]
    have h1 := cr_cut m (stepsIn p) r
    have h2 := cr_tail ((stepsIn p).drop m) (r.drop m)
    rw [List.tail_drop, List.tail_drop] at h2
    omega
/-- rising passages, fingers that only rise -/
theorem cr_rise : ∀ (p r : List Int), (∀ s ∈ p, 0 < s) → r.Pairwise (· ≤ ·) → cr p r = 0
  | [], r, _, _ => by cases r <;> simp [cr]
  | s :: p, [], _, _ => by simp [cr]
  | s :: p, [f], _, _ => by simp [cr]
  | s :: p, f :: g :: r, hs, hr => by
    have ih := cr_rise p (g :: r) (fun x hx => hs x (List.mem_cons_of_mem _ hx)) (List.Pairwise.of_cons hr)
    have hfg : f ≤ g := List.rel_of_pairwise_cons hr List.mem_cons_self
    have h0 := hs s List.mem_cons_self
    rw [cr, ih]
    have : crB f s g = false := by
      unfold crB
      by_cases e : f = g
      · simp [e]
      · have : f < g := by omega
        simp [this]
        intro _
        omega
    rw [this]
    rfl
theorem stepsIn_rise : ∀ {p : List Int}, p.Pairwise (· < ·) → ∀ s ∈ stepsIn p, 0 < s
  | [], _, s, hs => by simp at hs
  | [a], _, s, hs => by simp at hs
  | a :: b :: p, h, s, hs => by
    rw [stepsIn_cons] at hs
    rcases List.mem_cons.mp hs with rfl | hs
    · have := List.rel_of_pairwise_cons h (List.mem_cons_self (a := b) (l := p)); omega
    · exact stepsIn_rise (List.Pairwise.of_cons h) s hs
end KF
set_option maxHeartbeats 1000000
/-! KMO: the first closed row, by least rows for each last finger. -/
namespace KF
open L2
open PySem.W (dataLt alike)
theorem Hand.greedy_min {h : Hand} {f : Int} (hf : Fg f) : ∀ {p t l : List Int} {g : Int}, h.Row p (g :: t) → g :: t = l ++ [f] → ltR (g :: t) (h.greedy f p g) = false
  | [], t, l, g, x, e => by
    cases t with
    | nil => simp [Hand.greedy, ltR]
    | cons a t => exact x.elim
  | s :: p, t, l, g, x, e => by
    cases t with
    | nil => exact x.elim
    | cons k' t' =>
      obtain ⟨hg, st, x'⟩ := x
      obtain ⟨l', e'⟩ : ∃ l', k' :: t' = l' ++ [f] := by
        cases l with
        | nil => simp at e
        | cons a l => exact ⟨l, (List.cons.inj e).2⟩
      obtain ⟨l0, e0, el0, he0, w0⟩ := x'.wk
      have : e0 = f := by
        rw [el0] at e'
        exact (List.append_inj' e' rfl).2 |> fun z => by simpa using z
      subst this
      have hk' := x'.fg k' List.mem_cons_self
      have w : h.Wk (s :: p) g e0 := ⟨k', hk', st, w0⟩
      obtain ⟨k, r, eq, hk, st2, w2⟩ := Hand.greedy_next hf w
      have mem : k' ∈ (h.af [g] s).filter fun o => decide (o ∈ h.T [e0] (turnB p)) := List.mem_filter.mpr ⟨Hand.mem_af1.mpr ⟨hk', st⟩, by simpa using (mem_back hf).mpr ⟨hk', w0⟩⟩
      have le := pw_head ((h.af_pw [g] s).filter _) eq k' mem
      rw [Hand.greedy, eq, List.headD_cons]
      have goal : ltR (k' :: t') (h.greedy e0 p k) = false := by
        by_cases c : k = k'
        · subst c
          exact Hand.greedy_min hf x' e'
        · obtain ⟨q, eq2⟩ := h.greedy_head e0 p k
          rw [eq2, ltR]
          have h1 : decide (k' < k) = false := by simp; omega
          have h2 : decide (k < k') = true := by simp; omega
          rw [h1, h2]
          rfl
      rw [ltR, goal]
      simp
/-! ### least rows in a dict -/
abbrev DM := List (Int × List Int)
def insD (o : Int) (r : List Int) : DM → DM
  | [] => [(o, r)]
  | (k, v) :: d => if k = o then (k, if ltR r v = true then r else v) :: d else (k, v) :: insD o r d
theorem insD_mem {o k : Int} {r v : List Int} : ∀ {d : DM}, (k, v) ∈ insD o r d → (k, v) ∈ d ∨ (k = o ∧ (v = r ∨ (k, v) ∈ d))
  | [], h => by
    have : (k, v) = (o, r) := List.mem_singleton.mp h
    cases this
    exact .inr ⟨rfl, .inl rfl⟩
  | (k0, v0) :: d, h => by
    unfold insD at h
    split at h
    · rename_i e
      rcases List.mem_cons.mp h with h | h
      · have e1 := congrArg Prod.fst h
        have e2 := congrArg Prod.snd h
        dsimp only at e1 e2
        by_cases c : ltR r v0 = true
        · rw [if_pos c] at e2
          exact .inr ⟨by rw [e1, e], .inl e2⟩
        · rw [if_neg c] at e2
          exact .inl (by rw [e1, e2]; exact List.mem_cons_self)
      · exact .inl (List.mem_cons_of_mem _ h)
    · rcases List.mem_cons.mp h with h | h
      · exact .inl (by rw [h]; exact List.mem_cons_self)
      · rcases insD_mem h with m | ⟨e, m | m⟩
        · exact .inl (List.mem_cons_of_mem _ m)
        · exact .inr ⟨e, .inl m⟩
        · exact .inr ⟨e, .inr (List.mem_cons_of_mem _ m)⟩
theorem insD_keys {o k : Int} {r : List Int} : ∀ {d : DM}, k ∈ (insD o r d).map (·.1) ↔ k = o ∨ k ∈ d.map (·.1)
  | [] => by simp [insD]
  | (k0, v0) :: d => by
    unfold insD
    split
    · rename_i e
      simp only [List.map_cons, List.mem_cons]
      constructor
      · rintro (h | h)
        · exact .inr (.inl h)
        · exact .inr (.inr h)
      · rintro (h | h | h)
        · exact .inl (by rw [h, e])
        · exact .inl h
        · exact .inr h
    · simp only [List.map_cons, List.mem_cons, insD_keys (d := d)]
      constructor
      · rintro (h | h | h)
        · exact .inr (.inl h)
        · exact .inl h
        · exact .inr (.inr h)
      · rintro (h | h | h)
        · exact .inr (.inl h)
        · exact .inl h
        · exact .inr (.inr h)
theorem insD_nodup {o : Int} {r : List Int} : ∀ {d : DM}, (d.map (·.1)).Nodup → ((insD o r d).map (·.1)).Nodup
  | [], _ => by simp [insD]
  | (k0, v0) :: d, h => by
    rw [List.map_cons, List.nodup_cons] at h
    unfold insD
    split
    · rw [List.map_cons, List.nodup_cons]
      exact h
    · rename_i n
      rw [List.map_cons, List.nodup_cons]
      refine ⟨fun m => ?_, insD_nodup h.2⟩
      rcases insD_keys.mp m with e | m
      · exact n e
      · exact h.1 m
theorem insD_keep {o k : Int} {r v : List Int} : ∀ {d : DM}, (k, v) ∈ d → ∃ v', (k, v') ∈ insD o r d ∧ ltR v v' = false
  | (k0, v0) :: d, h => by
    unfold insD
    rcases List.mem_cons.mp h with h | h
    · cases h
      split
      · refine ⟨_, List.mem_cons_self, ?_⟩
        split
        · rename_i c
          have := ltP_asym (x := (0, r)) (y := (0, v)) (by unfold ltP; simp [c])
          unfold ltP at this
          simpa using this
        · exact ltR_self v
      · exact ⟨v, List.mem_cons_self, ltR_self v⟩
    · split
      · exact ⟨v, List.mem_cons_of_mem _ h, ltR_self v⟩
      · obtain ⟨v', m, l⟩ := insD_keep (o := o) (r := r) h
        exact ⟨v', List.mem_cons_of_mem _ m, l⟩
theorem insD_new {o : Int} {r : List Int} : ∀ {d : DM}, ∃ v, (o, v) ∈ insD o r d ∧ ltR r v = false
  | [] => ⟨r, List.mem_singleton.mpr rfl, ltR_self r⟩
  | (k0, v0) :: d => by
    unfold insD
    split
    · rename_i e
      subst e
      refine ⟨_, List.mem_cons_self, ?_⟩
      split
      · exact ltR_self r
      · rename_i c
        simpa using c
    · obtain ⟨v, m, l⟩ := insD_new (o := o) (r := r) (d := d)
      exact ⟨v, List.mem_cons_of_mem _ m, l⟩
structure MI (P : List (List Int)) (d : DM) : Prop where
  nd : (d.map (·.1)).Nodup
  val : ∀ k v, (k, v) ∈ d → v ∈ P ∧ ∃ l, v = l ++ [k]
  all : ∀ r ∈ P, ∃ l k v, r = l ++ [k] ∧ (k, v) ∈ d ∧ ltR r v = false
theorem MI.ins {P : List (List Int)} {d : DM} {l : List Int} {o : Int} (m : MI P d) : MI (P ++ [l ++ [o]]) (insD o (l ++ [o]) d) := by
  refine ⟨insD_nodup m.nd, fun k v h => ?_, fun r hr => ?_⟩
  · rcases insD_mem h with h | ⟨e, h | h⟩
    · obtain ⟨a, b⟩ := m.val k v h
      exact ⟨List.mem_append_left _ a, b⟩
    · rw [h, e]
      exact ⟨List.mem_append_right _ (List.mem_singleton.mpr rfl), l, rfl⟩
    · obtain ⟨a, b⟩ := m.val k v h
      exact ⟨List.mem_append_left _ a, b⟩
  · rcases List.mem_append.mp hr with hr | hr
    · obtain ⟨l', k, v, e, hm, lt⟩ := m.all r hr
      obtain ⟨v', hm', lt'⟩ := insD_keep (o := o) (r := l ++ [o]) hm
      exact ⟨l', k, v', e, hm', ltR_neg lt lt'⟩
    · rw [List.mem_singleton.mp hr]
      obtain ⟨v, hm, lt⟩ := insD_new (o := o) (r := l ++ [o]) (d := d)
      exact ⟨l, o, v, rfl, hm, lt⟩
def foldO (row : List Int) (os : List Int) (d : DM) : DM := os.foldl (fun d o => insD o (row ++ [o]) d) d
theorem MI.foldO {P : List (List Int)} {row : List Int} : ∀ {os : List Int} {d : DM}, MI P d → ∃ P', MI P' (foldO row os d) ∧ ∀ r, r ∈ P' ↔ r ∈ P ∨ ∃ o ∈ os, r = row ++ [o] := by
  intro os
  induction os generalizing P with
  | nil => intro d m; exact ⟨P, m, fun r => by simp⟩
  | cons o os ih =>
    intro d m
    obtain ⟨P', m', h'⟩ := ih (m.ins (l := row) (o := o))
    refine ⟨P', m', fun r => ?_⟩
    rw [h', List.mem_append, List.mem_singleton]
    simp only [List.mem_cons, exists_eq_or_imp]
    constructor
    · rintro ((h | h) | h)
      · exact .inl h
      · exact .inr (.inl h)
      · exact .inr (.inr h)
    · rintro (h | h | h)
      · exact .inl (.inl h)
      · exact .inl (.inr h)
      · exact .inr h
def Hand.foldR (h : Hand) (s : Int) (R : List (List Int)) (d : DM) : DM := R.foldl (fun d row => foldO row (h.af [lst row] s) d) d
theorem MI.foldR {h : Hand} {s : Int} {P : List (List Int)} : ∀ {R : List (List Int)} {d : DM}, MI P d → ∃ P', MI P' (h.foldR s R d) ∧ ∀ r, r ∈ P' ↔ r ∈ P ∨ ∃ row ∈ R, ∃ o ∈ h.af [lst row] s, r = row ++ [o] := by
  intro R
  induction R generalizing P with
  | nil => intro d m; exact ⟨P, m, fun r => by simp⟩
  | cons row R ih =>
    intro d m
    obtain ⟨P1, m1, h1⟩ := m.foldO (row := row) (os := h.af [lst row] s)
    obtain ⟨P', m', h'⟩ := ih m1
    refine ⟨P', m', fun r => ?_⟩
    rw [h', h1]
    simp only [List.mem_cons, exists_eq_or_imp]
    constructor
    · rintro ((h | h) | h)
      · exact .inl h
      · exact .inr (.inl h)
      · exact .inr (.inr h)
    · rintro (h | h | h)
      · exact .inl (.inl h)
      · exact .inl (.inr h)
      · exact .inr h
def Hand.stepF (h : Hand) (s : Int) (R : List (List Int)) : List (List Int) := (h.foldR s R []).map (·.2)
structure RwI (h : Hand) (b : Int) (p : List Int) (R : List (List Int)) : Prop where
  row : ∀ r ∈ R, h.Row p r ∧ ∃ t, r = b :: t
  nd : (R.map lst).Nodup
  all : ∀ t l f, h.Row p (b :: t) → b :: t = l ++ [f] → ∃ x ∈ R, (∃ l', x = l' ++ [f]) ∧ ltR (b :: t) x = false
theorem MI.nil : MI [] [] := ⟨List.nodup_nil, (fun _ _ h => nomatch h), (fun _ h => nomatch h)⟩
theorem RwI.start {h : Hand} {b : Int} (hb : Fg b) : RwI h b [] [[b]] := by
  refine ⟨fun r hr => ?_, by simp, fun t l f x e => ?_⟩
  · rw [List.mem_singleton.mp hr]
    exact ⟨hb, [], rfl⟩
  · cases t with
    | nil =>
      have : l = [] ∧ b = f := by
        cases l with
        | nil => simpa using e
        | cons a l => simp at e
      refine ⟨[b], List.mem_singleton.mpr rfl, ⟨[], by rw [this.2]; rfl⟩, ltR_self _⟩
    | cons a t => exact x.elim
theorem RwI.step {h : Hand} {b s : Int} {p : List Int} {R : List (List Int)} (ri : RwI h b p R) : RwI h b (p ++ [s]) (h.stepF s R) := by
  obtain ⟨P, m, hP⟩ := MI.nil.foldR (h := h) (s := s) (R := R)
  have inP : ∀ r, r ∈ P ↔ ∃ row ∈ R, ∃ o ∈ h.af [lst row] s, r = row ++ [o] := fun r => by rw [hP]; simp
  have lastR : ∀ row ∈ R, ∃ u f, row = u ++ [f] ∧ lst row = f ∧ Fg f := fun row hr => by
    obtain ⟨x, t, e⟩ := ri.row row hr
    obtain ⟨u, f, eu⟩ := snocI (l := row) (by rw [e]; simp)
    exact ⟨u, f, eu, by rw [eu]; simp [lst], x.fg f (by rw [eu]; simp)⟩
  have rowP : ∀ r ∈ P, h.Row (p ++ [s]) r ∧ ∃ t, r = b :: t := fun r hr => by
    obtain ⟨row, hrow, o, ho, rfl⟩ := (inP r).mp hr
    obtain ⟨x, t, e⟩ := ri.row row hrow
    obtain ⟨u, f, eu, el, hf⟩ := lastR row hrow
    rw [el] at ho
    obtain ⟨h1, h2⟩ := Hand.mem_af1.mp ho
    refine ⟨?_, t ++ [o], by rw [e]; rfl⟩
    rw [eu] at x ⊢
    exact Hand.row_snoc x h2 h1
  refine ⟨fun r hr => ?_, ?_, fun t l f x e => ?_⟩
  · obtain ⟨⟨k, v⟩, hkv, rfl⟩ := List.mem_map.mp hr
    exact rowP v (m.val k v hkv).1
  · have : (h.stepF s R).map lst = (h.foldR s R []).map (·.1) := by
      unfold Hand.stepF
      rw [List.map_map]
      apply List.map_congr_left
      rintro ⟨k, v⟩ hkv
      obtain ⟨_, l, e⟩ := m.val k v hkv
      show lst v = k
      rw [e]
      simp [lst]
    rw [this]
    exact m.nd
  · obtain ⟨r', f', o, er, xr, st, ho⟩ := Hand.row_unsnoc x
    have eo : f = o := by
      rw [er] at e
      have := (List.append_inj' e rfl).2
      simpa using this.symm
    subst eo
    have hb' : ∃ t', r' ++ [f'] = b :: t' := by
      cases r' with
      | nil =>
        rw [List.nil_append, List.singleton_append] at er
        have := (List.cons.inj er).1
        exact ⟨[], by rw [this]; rfl⟩
      | cons a r'' =>
        have := (List.cons.inj er).1
        exact ⟨r'' ++ [f'], by rw [this]; rfl⟩
    obtain ⟨t', et⟩ := hb'
    rw [et] at xr
    obtain ⟨z, hz, ⟨lz, ez⟩, ltz⟩ := ri.all t' r' f' xr et.symm
    have hin : z ++ [f] ∈ P := (inP _).mpr ⟨z, hz, f, by
      have : lst z = f' := by rw [ez]; simp [lst]
      rw [this]
      exact Hand.mem_af1.mpr ⟨ho, st⟩, rfl⟩
    obtain ⟨l2, k, v, e2, hv, ltv⟩ := m.all _ hin
    have ek : k = f := by
      have := (List.append_inj' e2 rfl).2
      simpa using this.symm
    subst ek
    refine ⟨v, List.mem_map.mpr ⟨(k, v), hv, rfl⟩, (m.val k v hv).2, ?_⟩
    have hlen : (b :: t').length = z.length := by
      rw [xr.len, (ri.row z hz).1.len]
    have e5 : b :: t = (b :: t') ++ [k] := by rw [er, et]
    rw [e5]
    exact ltR_neg (by rw [ltR_app k hlen]; exact ltz) ltv
def Hand.firstR (h : Hand) (b : Int) (p : List Int) : List (List Int) := p.foldl (fun R s => h.stepF s R) [[b]]
theorem RwI.fold {h : Hand} {b : Int} : ∀ (q p : List Int) (R : List (List Int)), RwI h b p R → RwI h b (p ++ q) (q.foldl (fun R s => h.stepF s R) R)
  | [], p, R, r => by rw [List.append_nil]; exact r
  | s :: q, p, R, r => by
    have := RwI.fold q (p ++ [s]) (h.stepF s R) r.step
    rw [List.append_assoc] at this
    exact this
theorem Hand.firstR_inv (h : Hand) {b : Int} (hb : Fg b) (p : List Int) : RwI h b p (h.firstR b p) := by
  have := RwI.fold p [] [[b]] (RwI.start (h := h) hb)
  rw [List.nil_append] at this
  exact this
theorem nodup_of : ∀ {l : List (List Int)}, (l.map lst).Nodup → l.Nodup
  | [], _ => List.nodup_nil
  | a :: l, h => by
    rw [List.map_cons, List.nodup_cons] at h
    exact List.nodup_cons.mpr ⟨fun m => h.1 (List.mem_map.mpr ⟨a, m, rfl⟩), nodup_of h.2⟩
/-- the row that ends where it begins -/
theorem Hand.firstR_good {h : Hand} {b : Int} (hb : Fg b) {p : List Int} : ((h.firstR b p).filter fun r => decide (lst r = b)) = if b ∈ h.T [b] (turnB p) then [h.greedy b p b] else [] := by
  have ri := h.firstR_inv hb p
  have uniq : ∀ x ∈ (h.firstR b p).filter (fun r => decide (lst r = b)), b ∈ h.T [b] (turnB p) ∧ x = h.greedy b p b := by
    intro x hx
    obtain ⟨hx1, hx2⟩ := List.mem_filter.mp hx
    have hl : lst x = b := of_decide_eq_true hx2
    obtain ⟨xr, t, et⟩ := ri.row x hx1
    obtain ⟨u, f, eu⟩ := snocI (l := x) (by rw [et]; simp)
    have ef : f = b := by rw [eu] at hl; simpa [lst] using hl
    subst ef
    rw [et] at xr
    obtain ⟨l0, e0, el0, he0, w0⟩ := xr.wk
    have : e0 = f := by
      rw [et, el0] at eu
      have := (List.append_inj' eu rfl).2
      simpa using this
    subst this
    have mem : e0 ∈ h.T [e0] (turnB p) := (mem_back hb).mpr ⟨hb, w0⟩
    refine ⟨mem, ?_⟩
    obtain ⟨gr, r', egr⟩ := Hand.greedy_row hb hb w0
    obtain ⟨t2, et2⟩ := h.greedy_head e0 p e0
    have k1 : ltR x (h.greedy e0 p e0) = false := by
      rw [et]
      exact Hand.greedy_min hb xr (by rw [← et]; exact eu)
    rw [et2] at gr
    obtain ⟨z, hz, ⟨lz, ez⟩, ltz⟩ := ri.all t2 r' e0 gr (by rw [← et2]; exact egr)
    have zx : z = x := by
      have lz' : lst z = e0 := by rw [ez]; simp [lst]
      have inj : ∀ {l : List (List Int)}, (l.map lst).Nodup → ∀ a ∈ l, ∀ c ∈ l, lst a = lst c → a = c := by
        intro l
        induction l with
        | nil => intro _ a ha; cases ha
        | cons w l ih =>
          intro nd a ha c hc e
          rw [List.map_cons, List.nodup_cons] at nd
          rcases List.mem_cons.mp ha with e1 | ha' <;> rcases List.mem_cons.mp hc with e2 | hc'
          · rw [e1, e2]
          · exact (nd.1 (by rw [← e1, e]; exact List.mem_map.mpr ⟨c, hc', rfl⟩)).elim
          · exact (nd.1 (by rw [← e2, ← e]; exact List.mem_map.mpr ⟨a, ha', rfl⟩)).elim
          · exact ih nd.2 a ha' c hc' e
      exact inj ri.nd z hz x hx1 (by rw [lz', hl])
    rw [zx] at ltz
    rw [← et2] at ltz
    exact (ltR_tot ltz k1).symm
  by_cases mem : b ∈ h.T [b] (turnB p)
  · rw [if_pos mem]
    obtain ⟨_, w⟩ := (mem_back hb).mp mem
    obtain ⟨gr, r', egr⟩ := Hand.greedy_row hb hb w
    obtain ⟨t2, et2⟩ := h.greedy_head b p b
    rw [et2] at gr
    obtain ⟨z, hz, ⟨lz, ez⟩, ltz⟩ := ri.all t2 r' b gr (by rw [← et2]; exact egr)
    have hzf : z ∈ (h.firstR b p).filter (fun r => decide (lst r = b)) := List.mem_filter.mpr ⟨hz, by rw [ez]; simp [lst]⟩
    have nd2 : ((h.firstR b p).filter (fun r => decide (lst r = b))).Nodup := (nodup_of ri.nd).filter _
    match hq : (h.firstR b p).filter (fun r => decide (lst r = b)) with
    | [] => rw [hq] at hzf; cases hzf
    | [y] => rw [(uniq y (by rw [hq]; exact List.mem_singleton.mpr rfl)).2]
    | y :: y' :: l =>
      have e1 := (uniq y (by rw [hq]; exact List.mem_cons_self)).2
      have e2 := (uniq y' (by rw [hq]; exact List.mem_cons_of_mem _ List.mem_cons_self)).2
      rw [hq, List.nodup_cons] at nd2
      exact (nd2.1 (by rw [e1, e2]; exact List.mem_cons_self)).elim
  · rw [if_neg mem, List.filter_eq_nil_iff]
    intro x hx hq
    exact mem (uniq x (List.mem_filter.mpr ⟨hx, hq⟩)).1
end KF
set_option maxHeartbeats 1000000
/-! KMQ: dicts of rows as the program keeps them. -/
namespace KF
open L2
open PySem.W (dataLt alike keyToks keyToksAll)
theorem dataLt_iT (a b : List Int) : dataLt (toPy (iT a)) (toPy (iT b)) = ltR a b := by
  unfold dataLt
  have e : ∀ r : List Int, keyToks (toPy (iT r)) = keyToksAll (toPys (r.map D.int)) ++ [] := fun r => by simp [toPy, keyToks]
  rw [e, e, lex_rows [] rfl]
theorem alike_iT (a b : List Int) : alike (toPy (iT a)) (toPy (iT b)) = true := by simp [toPy, alike, alike_ints]
theorem gMin2_iT (a b : List Int) : gMin2D [iT a, iT b] = some (iT (if ltR b a = true then b else a)) := by
  show (if okd 31 (iT a) = true ∧ okd 31 (iT b) = true ∧ alkB [iT a, iT b] = true then some (if dataLt (toPy (iT b)) (toPy (iT a)) = true then iT b else iT a) else none) = _
  have al : alkB [iT a, iT b] = true := by
    unfold alkB
    simp only [List.all_cons, List.all_nil, alike_iT, Bool.and_true, Bool.and_self]
  rw [if_pos ⟨okd_ints 30 a, okd_ints 30 b, al⟩, dataLt_iT]
  split <;> rfl
abbrev dKs (d : DM) : List D := d.map fun x => .int x.1
abbrev dVs (d : DM) : List D := d.map fun x => iT x.2
abbrev dmD (d : DM) : D := .dic (dKs d) (dVs d)
theorem nodK_ints : ∀ {d : DM}, (d.map (·.1)).Nodup → nodK (dKs d) = true
  | [], _ => rfl
  | (k, v) :: d, h => by
    rw [List.map_cons, List.nodup_cons] at h
    show (!((dKs d).any fun e => decide (keyOf e = keyOf (.int k))) && nodK (dKs d)) = true
    rw [nodK_ints h.2, Bool.and_true, Bool.not_eq_true', List.any_eq_false]
    intro e he
    obtain ⟨x, hx, rfl⟩ := List.mem_map.mp he
    simp only [keyOf, decide_eq_true_eq, Option.some.injEq, Sum.inl.injEq]
    intro z
    exact h.1 (List.mem_map.mpr ⟨x, hx, z⟩)
/-- what stands at a key, made less by r -/
def lessD (o : Int) (r : List Int) : DM → List Int
  | [] => r
  | (k, v) :: d => if k = o then (if ltR r v = true then r else v) else lessD o r d
theorem look_less (o : Int) (r : List Int) : ∀ d : DM, gMin2D [(lookK (.inl o) (dKs d) (dVs d)).getD (iT r), iT r] = some (iT (lessD o r d))
  | [] => by
    show gMin2D [iT r, iT r] = _
    rw [gMin2_iT, ltR_self]
    rfl
  | (k, v) :: d => by
    have ih := look_less o r d
    show gMin2D [((if keyOf (.int k) = some (.inl o) then some (iT v) else lookK (.inl o) (dKs d) (dVs d))).getD (iT r), iT r] = some (iT (if k = o then (if ltR r v = true then r else v) else lessD o r d))
    by_cases e : k = o
    · subst e
      rw [if_pos (show keyOf (.int k) = some (.inl k) from rfl), if_pos rfl]
      show gMin2D [iT v, iT r] = _
      rw [gMin2_iT]
    · rw [if_neg (fun z => e (by simpa [keyOf] using z)), if_neg e]
      exact ih
theorem put_ins (o : Int) (r : List Int) : ∀ d : DM, putD (.inl o) (iT (lessD o r d)) (dKs d) (dVs d) = (dKs (insD o r d), dVs (insD o r d))
  | [] => rfl
  | (k, v) :: d => by
    have ih := put_ins o r d
    show (if keyOf (.int k) = some (.inl o) then (D.int k :: dKs d, iT (lessD o r ((k, v) :: d)) :: dVs d) else (D.int k :: (putD (.inl o) (iT (lessD o r ((k, v) :: d))) (dKs d) (dVs d)).1, iT v :: (putD (.inl o) (iT (lessD o r ((k, v) :: d))) (dKs d) (dVs d)).2)) = _
    by_cases e : k = o
    · subst e
      rw [if_pos (show keyOf (.int k) = some (.inl k) from rfl)]
      unfold lessD insD
      rw [if_pos rfl, if_pos rfl]
      rfl
    · rw [if_neg (fun z => e (by simpa [keyOf] using z))]
      unfold lessD insD
      rw [if_neg e, if_neg e, ih]
      rfl
def putB : En → M Out := (fDput 6 (fBor 8) (fN gMin2D (fCons (fDget2 6 (fBor 8) (f2 gAdd (fBor 7) (fSz .tup (fCons (fVar 8) fNil)))) (fCons (f2 gAdd (fBor 7) (fSz .tup (fCons (fVar 8) fNil))) fNil))))
theorem putB_run {x0 x1 x2 x3 x4 x5 x9 : Sl} {d : DM} {row : List Int} {o : Int} {τ : Tau} (nd : (d.map (·.1)).Nodup) (hl : d.length < 1000) (hr : row.length ≤ 1000) :
    putB [x0, x1, x2, x3, x4, x5, .ow (dmD d), .fz (iT row), .fz (.int o), x9] τ = .ok (.next [x0, x1, x2, x3, x4, x5, .ow (dmD (insD o (row ++ [o]) d)), .fz (iT row), .fz (.int o), x9]) τ := by
  have e1 : gAdd (iT row) (.tup [.int o]) = some (iT (row ++ [o])) := by
    rw [gAdd_tup _ _ (by simp; omega)]
    simp
  have e2 : (f2 gAdd (fBor 7) (fSz .tup (fCons (fVar 8) fNil))) [x0, x1, x2, x3, x4, x5, .ow (dmD d), .fz (iT row), .fz (.int o), x9] τ = .ok (iT (row ++ [o])) τ := by
    simp only [f2_r, fBor_r, fSz_r, fCons_r, fVar_r, fNil_r, List.getElem?_cons_zero, List.getElem?_cons_succ, opt_some_r, bd_ok, List.length_cons, List.length_nil, SZ_eq, Nat.reduceAdd, Nat.reduceLeDiff, if_true, e1]
  have e3 : fDget2 6 (fBor 8) (f2 gAdd (fBor 7) (fSz .tup (fCons (fVar 8) fNil))) [x0, x1, x2, x3, x4, x5, .ow (dmD d), .fz (iT row), .fz (.int o), x9] τ = .ok ((lookK (.inl o) (dKs d) (dVs d)).getD (iT (row ++ [o]))) τ := by
    unfold fDget2
    simp only [bnd_r, fBor_r, List.getElem?_cons_zero, List.getElem?_cons_succ, opt_some_r, bd_ok, dicOf, e2, keyOf, Option.map_some]
  have e4 : (fN gMin2D (fCons (fDget2 6 (fBor 8) (f2 gAdd (fBor 7) (fSz .tup (fCons (fVar 8) fNil)))) (fCons (f2 gAdd (fBor 7) (fSz .tup (fCons (fVar 8) fNil))) fNil))) [x0, x1, x2, x3, x4, x5, .ow (dmD d), .fz (iT row), .fz (.int o), x9] τ = .ok (iT (lessD o (row ++ [o]) d)) τ := by
    rw [fN_r, fCons_r, e3, bd_ok, fCons_r, e2, bd_ok, fNil_r, bd_ok, bd_ok, bd_ok, look_less, opt_some_r]
  unfold putB fDput
  rw [bnd_r, e4, bd_ok]
  simp only [bnd_r, dicAt, fBor_r, List.getElem?_cons_zero, List.getElem?_cons_succ, opt_some_r, bd_ok, keyOf]
  rw [if_pos ⟨by show (dKs d).length < SZ; rw [List.length_map]; show _ < 1000000; omega, nodK_ints nd⟩, put_ins]
  rfl
theorem insD_len (o : Int) (r : List Int) : ∀ d : DM, (insD o r d).length ≤ d.length + 1
  | [] => by simp [insD]
  | (k, v) :: d => by
    have := insD_len o r d
    unfold insD
    split <;> simp <;> omega
theorem putB_loop {x0 x1 x2 x3 x4 x5 x9 : Sl} {row : List Int} {τ : Tau} (hr : row.length ≤ 1000) : ∀ (os : List Int) (d : DM) (y : Sl), (d.map (·.1)).Nodup → d.length + os.length < 1000 →
    ∃ z, loopF (.name 8) putB (os.map .int) [x0, x1, x2, x3, x4, x5, .ow (dmD d), .fz (iT row), y, x9] τ = .ok (.next [x0, x1, x2, x3, x4, x5, .ow (dmD (foldO row os d)), .fz (iT row), z, x9]) τ
  | [], d, y, _, _ => ⟨y, rfl⟩
  | o :: os, d, y, nd, hl => by
    simp only [List.length_cons] at hl
    have hi := insD_len o (row ++ [o]) d
    obtain ⟨z, e⟩ := putB_loop (x0 := x0) (x1 := x1) (x2 := x2) (x3 := x3) (x4 := x4) (x5 := x5) (x9 := x9) (τ := τ) hr os (insD o (row ++ [o]) d) (.fz (.int o)) (insD_nodup nd) (by omega)
    refine ⟨z, ?_⟩
    simp only [List.map_cons, loopF_cons, bindD_name, opt_some_r, bd_ok, List.set_cons_succ, List.set_cons_zero, putB_run nd (show d.length < 1000 by omega) hr, loopK_next]
    exact e
def rowB : En → M Out := (fFor (fItA (fCallM m__law_after 3 (fCons (fVar 0) (fCons (fSz .tup (fCons (f2 gIxA (fBor 7) (f1 gNeg (fC (.int 1)))) fNil)) (fCons (fVar 5) fNil))))) (.name 8) putB)
theorem foldO_nodup {row : List Int} : ∀ {os : List Int} {d : DM}, (d.map (·.1)).Nodup → ((foldO row os d).map (·.1)).Nodup
  | [], d, h => h
  | o :: os, d, h => foldO_nodup (os := os) (insD_nodup h)
theorem foldO_len {row : List Int} : ∀ {os : List Int} {d : DM}, (foldO row os d).length ≤ d.length + os.length
  | [], d => Nat.le_refl _
  | o :: os, d => by
    have := foldO_len (row := row) (os := os) (d := insD o (row ++ [o]) d)
    have h2 := insD_len o (row ++ [o]) d
    show (foldO row os (insD o (row ++ [o]) d)).length ≤ _
    simp only [List.length_cons]
    omega
theorem rowB_loop {h : Hand} (hh : h.Ok) {s : Int} {x1 x2 x3 x4 x9 : Sl} {τ : Tau} : ∀ (R : List (List Int)) (d : DM) (y z : Sl), (∀ r ∈ R, ∃ l f, r = l ++ [f] ∧ Fg f ∧ l.length ≤ 900) → (d.map (·.1)).Nodup → d.length + 5 * R.length < 900 →
    ∃ y' z', loopF (.name 7) rowB (R.map iT) [.fz h.d, x1, x2, x3, x4, .fz (.int s), .ow (dmD d), y, z, x9] τ = .ok (.next [.fz h.d, x1, x2, x3, x4, .fz (.int s), .ow (dmD (h.foldR s R d)), y', z', x9]) τ
  | [], d, y, z, _, _, _ => ⟨y, z, rfl⟩
  | row :: R, d, y, z, hR, nd, hl => by
    simp only [List.length_cons] at hl
    obtain ⟨l, f, e, hf, hlen⟩ := hR row List.mem_cons_self
    have el : lst row = f := by rw [e]; simp [lst]
    have a5 := h.af_len [lst row] s
    have f5 := foldO_len (row := row) (os := h.af [lst row] s) (d := d)
    have hrl : row.length ≤ 1000 := by rw [e, List.length_append, List.length_singleton]; omega
    obtain ⟨z1, e1⟩ := putB_loop (x0 := .fz h.d) (x1 := x1) (x2 := x2) (x3 := x3) (x4 := x4) (x5 := .fz (.int s)) (x9 := x9) (τ := τ) hrl (h.af [lst row] s) d z nd (by omega)
    obtain ⟨y', z', e2⟩ := rowB_loop hh (s := s) (x1 := x1) (x2 := x2) (x3 := x3) (x4 := x4) (x9 := x9) (τ := τ) R (foldO row (h.af [lst row] s) d) (.fz (iT row)) z1 (fun r hr => hR r (List.mem_cons_of_mem _ hr)) (foldO_nodup nd) (by omega)
    refine ⟨y', z', ?_⟩
    have ea : m__law_after [h.d, .tup [.int f], .int s] τ = .ok (iT (h.af [f] s)) τ := law_after_run hh hf τ
    have e3 : rowB [.fz h.d, x1, x2, x3, x4, .fz (.int s), .ow (dmD d), .fz (iT row), z, x9] τ = .ok (.next [.fz h.d, x1, x2, x3, x4, .fz (.int s), .ow (dmD (foldO row (h.af [lst row] s) d)), .fz (iT row), z1, x9]) τ := by
      have g : gIxA (iT row) (.int (-1)) = some (.int f) := by rw [e]; exact last_ix l f
      unfold rowB
      simp only [fFor_r, fItA_r, fCallM_r, fCons_r, fVar_r, fSz_r, f2_r, f1_r, fBor_r, fC_r, fNil_r, List.getElem?_cons_zero, List.getElem?_cons_succ, opt_some_r, bd_ok, gNeg_int, g, List.length_cons, List.length_nil, SZ_eq, Nat.reduceAdd, Nat.reduceLeDiff, if_true, ea, items0_tup]
      rw [el] at e1 ⊢
      exact e1
    simp only [List.map_cons, loopF_cons, bindD_name, opt_some_r, bd_ok, List.set_cons_succ, List.set_cons_zero, e3, loopK_next]
    exact e2
def stepBd : En → M Out := (fSeq (fAsgO 6 (fC (.dic [] [])))
    (fSeq (fFor (fItA (fVar 4)) (.name 7) rowB)
    (fLock 6 (fAsg (.name 4) (fLc (fKeys 6) (.name 8) (fun _ => M.ret true) (f2 gDget (fBor 6) (fBor 8)) [8])))))
theorem foldR_len {h : Hand} {s : Int} : ∀ {R : List (List Int)} {d : DM}, (h.foldR s R d).length ≤ d.length + 5 * R.length
  | [], d => Nat.le_refl _
  | row :: R, d => by
    have h1 := foldO_len (row := row) (os := h.af [lst row] s) (d := d)
    have h2 := foldR_len (h := h) (s := s) (R := R) (d := foldO row (h.af [lst row] s) d)
    have h3 := h.af_len [lst row] s
    show (h.foldR s R (foldO row (h.af [lst row] s) d)).length ≤ _
    simp only [List.length_cons]
    omega
theorem get_dm : ∀ {d : DM} {k : Int} {v : List Int}, (d.map (·.1)).Nodup → (k, v) ∈ d → gDget (dmD d) (.int k) = some (iT v)
  | (k0, v0) :: d, k, v, nd, h => by
    rw [List.map_cons, List.nodup_cons] at nd
    show (if keyOf (.int k0) = some (.inl k) then some (iT v0) else lookK (.inl k) (dKs d) (dVs d)) = _
    rcases List.mem_cons.mp h with h | h
    · cases h
      rw [if_pos (show keyOf (.int k0) = some (.inl k0) from rfl)]
    · have n : k0 ≠ k := fun e => nd.1 (List.mem_map.mpr ⟨(k, v), h, e.symm⟩)
      rw [if_neg (fun z => n (by simpa [keyOf] using z))]
      exact get_dm nd.2 h
theorem stepBd_run {h : Hand} (hh : h.Ok) {s : Int} {R : List (List Int)} {x1 x2 x3 x6 x7 x8 x9 : Sl} {τ : Tau} (hR : ∀ r ∈ R, ∃ l f, r = l ++ [f] ∧ Fg f ∧ l.length ≤ 900) (h5 : R.length ≤ 100) :
    ∃ y6 y7 y8, stepBd [.fz h.d, x1, x2, x3, .fz (iLL R), .fz (.int s), x6, x7, x8, x9] τ = .ok (.next [.fz h.d, x1, x2, x3, .fz (iLL (h.stepF s R)), .fz (.int s), y6, y7, y8, x9]) τ := by
  obtain ⟨y7, y8, e1⟩ := rowB_loop hh (s := s) (x1 := x1) (x2 := x2) (x3 := x3) (x4 := .fz (iLL R)) (x9 := x9) (τ := τ) R [] x7 x8 hR (by simp) (by simp only [List.length_nil]; omega)
  have e1 : loopF (.name 7) rowB (R.map iT) [.fz h.d, x1, x2, x3, .fz (iLL R), .fz (.int s), .ow (.dic [] []), x7, x8, x9] τ = _ := e1
  obtain ⟨P, mi, _⟩ := MI.nil.foldR (h := h) (s := s) (R := R)
  have fl := foldR_len (h := h) (s := s) (R := R) (d := [])
  refine ⟨.fz (dmD (h.foldR s R [])), y7, y8, ?_⟩
  have e2 : fLc (fKeys 6) (.name 8) (fun _ => M.ret true) (f2 gDget (fBor 6) (fBor 8)) [8] [.fz h.d, x1, x2, x3, .fz (iLL R), .fz (.int s), .fz (dmD (h.foldR s R [])), y7, y8, x9] τ = .ok (iLL (h.stepF s R)) τ := by
    rw [fLc_all (fun x : Int × List Int => D.int x.1) (h.foldR s R []) (fun x => iT x.2) ?h1 ?h2 ?h3]
    case h1 => rfl
    case h2 => show _ ≤ 1000000; simp only [List.length_nil] at fl; omega
    case h3 =>
      rintro ⟨k, v⟩ hx
      refine ⟨_, bindD_name _ _ _, ?_⟩
      simp only [wipeE, f2_r, fBor_r, List.set_cons_succ, List.set_cons_zero, List.getElem?_cons_zero, List.getElem?_cons_succ, opt_some_r, bd_ok, get_dm mi.nd hx]
    unfold Hand.stepF
    rw [iLL, List.map_map]
    rfl
  unfold stepBd
  rw [fSeq_r, fAsgO_r, fC_r, bd_ok, bd_ok]
  simp only [List.set_cons_succ, List.set_cons_zero, seqK_next, fSeq_r, fFor_r, fItA_r, fVar_r, List.getElem?_cons_zero, List.getElem?_cons_succ, opt_some_r, bd_ok, items0_lst]
  rw [e1, bd_ok, seqK_next]
  unfold fLock
  simp only [bnd_r, dicAt, List.getElem?_cons_zero, List.getElem?_cons_succ, opt_some_r, bd_ok, List.set_cons_succ, List.set_cons_zero, fAsg_r]
  rw [e2]
  simp only [bd_ok, bindD_name, opt_some_r, List.set_cons_succ, List.set_cons_zero]
theorem RwI.small {h : Hand} {b : Int} {p : List Int} {R : List (List Int)} (ri : RwI h b p R) : R.length ≤ 5 ∧ ∀ r ∈ R, ∃ l f, r = l ++ [f] ∧ Fg f ∧ l.length = p.length := by
  have h2 : ∀ r ∈ R, ∃ l f, r = l ++ [f] ∧ Fg f ∧ l.length = p.length := fun r hr => by
    obtain ⟨x, t, e⟩ := ri.row r hr
    obtain ⟨u, f, eu⟩ := snocI (l := r) (by rw [e]; simp)
    have hl := x.len
    rw [eu, List.length_append, List.length_singleton] at hl
    exact ⟨u, f, eu, x.fg f (by rw [eu]; simp), by omega⟩
  refine ⟨?_, h2⟩
  have := nodup_len 6 ri.nd (fun y hy => by
    obtain ⟨r, hr, rfl⟩ := List.mem_map.mp hy
    obtain ⟨l, f, e, hf, _⟩ := h2 r hr
    have : lst r = f := by rw [e]; simp [lst]
    rw [this]
    obtain ⟨a, c⟩ := hf
    exact ⟨by omega, by omega⟩)
  have k : ∀ y ∈ R.map lst, Fg y := fun y hy => by
    obtain ⟨r, hr, rfl⟩ := List.mem_map.mp hy
    obtain ⟨l, f, e, hf, _⟩ := h2 r hr
    have : lst r = f := by rw [e]; simp [lst]
    rw [this]
    exact hf
  have nd2 : ((R.map lst).map fun x => x - 1).Nodup := by
    refine List.Pairwise.map _ (fun a c hne => ?_) ri.nd
    omega
  have := nodup_len 5 nd2 (fun y hy => by
    obtain ⟨z, hz, rfl⟩ := List.mem_map.mp hy
    obtain ⟨a, c⟩ := k z hz
    exact ⟨by omega, by omega⟩)
  simpa using this
theorem steps_loop {h : Hand} (hh : h.Ok) {b : Int} {x1 x2 x3 x9 : Sl} {τ : Tau} : ∀ (q p : List Int) (R : List (List Int)) (x5 x6 x7 x8 : Sl), RwI h b p R → p.length + q.length ≤ 800 →
    ∃ y5 y6 y7 y8, loopF (.name 5) stepBd (q.map .int) [.fz h.d, x1, x2, x3, .fz (iLL R), x5, x6, x7, x8, x9] τ = .ok (.next [.fz h.d, x1, x2, x3, .fz (iLL (q.foldl (fun R s => h.stepF s R) R)), y5, y6, y7, y8, x9]) τ
  | [], p, R, x5, x6, x7, x8, _, _ => ⟨x5, x6, x7, x8, rfl⟩
  | s :: q, p, R, x5, x6, x7, x8, ri, hl => by
    simp only [List.length_cons] at hl
    obtain ⟨s5, srow⟩ := ri.small
    obtain ⟨y6, y7, y8, e1⟩ := stepBd_run hh (s := s) (R := R) (x1 := x1) (x2 := x2) (x3 := x3) (x6 := x6) (x7 := x7) (x8 := x8) (x9 := x9) (τ := τ) (fun r hr => by
      obtain ⟨l, f, e, hf, hll⟩ := srow r hr
      exact ⟨l, f, e, hf, by omega⟩) (by omega)
    obtain ⟨z5, z6, z7, z8, e2⟩ := steps_loop hh (b := b) (x1 := x1) (x2 := x2) (x3 := x3) (x9 := x9) (τ := τ) q (p ++ [s]) (h.stepF s R) (.fz (.int s)) y6 y7 y8 ri.step (by rw [List.length_append, List.length_singleton]; omega)
    refine ⟨z5, z6, z7, z8, ?_⟩
    simp only [List.map_cons, loopF_cons, bindD_name, opt_some_r, bd_ok, List.set_cons_succ, List.set_cons_zero, e1, loopK_next, List.foldl_cons]
    exact e2
end KF
set_option maxHeartbeats 1000000
/-! L17: a law, plain. -/
namespace KF
open L2
def B__law_closed : Fs := fun n =>
    (fSeq (fIf (fOr (fB (f2 gEq (fBor 2) (fSz .tup fNil))) (fB (f2 gNe (f2 gMod (fN gLen (fCons (fBor 2) fNil)) (fN gLen (fCons (fBor 1) fNil))) (fC (.int 0)))))
    (fRet (fC (.bl false)))
    fNext)
    (fSeq (fFor (fRng rng1 (fCons (fN gLen (fCons (fBor 2) fNil)) fNil)) (.name 3)
    (fIf (fNot (fTru (fCallM m__law_does 4 (fCons (fVar 0) (fCons (f2 gIxA (fBor 2) (fBor 3)) (fCons (f2 gIxA (fBor 1) (f2 gMod (fBor 3) (fN gLen (fCons (fBor 1) fNil)))) (fCons (f2 gIxA (fBor 2) (f2 gMod (f2 gAdd (fBor 3) (fC (.int 1))) (fN gLen (fCons (fBor 2) fNil)))) fNil)))))))
    (fRet (fC (.bl false)))
    fNext))
    (fRet (fC (.bl true)))))
def m__law_closed : List D → M D := mOf B__law_closed 4
def B__law_first : Fs := fun n =>
    (fSeq (fFor (fRng rng2 (fCons (fC (.int 1)) (fCons (fC (.int 6)) fNil))) (.name 3)
    (fSeq (fAsg (.name 4) (fSz .lst (fCons (fSz .tup (fCons (fVar 3) fNil)) fNil)))
    (fSeq (fFor (fItA (f2 gMul (fBor 1) (fBor 2))) (.name 5)
    (fSeq (fAsgO 6 (fC (.dic [] [])))
    (fSeq (fFor (fItA (fVar 4)) (.name 7)
    (fFor (fItA (fCallM m__law_after 3 (fCons (fVar 0) (fCons (fSz .tup (fCons (f2 gIxA (fBor 7) (f1 gNeg (fC (.int 1)))) fNil)) (fCons (fVar 5) fNil))))) (.name 8)
    (fDput 6 (fBor 8) (fN gMin2D (fCons (fDget2 6 (fBor 8) (f2 gAdd (fBor 7) (fSz .tup (fCons (fVar 8) fNil)))) (fCons (f2 gAdd (fBor 7) (fSz .tup (fCons (fVar 8) fNil))) fNil))))))
    (fLock 6 (fAsg (.name 4) (fLc (fKeys 6) (.name 8) (fun _ => M.ret true) (f2 gDget (fBor 6) (fBor 8)) [8]))))))
    (fSeq (fAsg (.name 9) (fLc (fItA (fVar 4)) (.name 7) (fB (f2 gEq (f2 gIxA (fBor 7) (f1 gNeg (fC (.int 1)))) (fBor 3))) (fSl (fBor 7) fNoPart (fPart (f1 gNeg (fC (.int 1))))) [7]))
    (fIf (fB (f2 gNe (fBor 9) (fSz .lst fNil)))
    (fRet (f2 gIxA (fBor 9) (fC (.int 0))))
    fNext)))))
    (fRet (fC .non)))
def m__law_first : List D → M D := mOf B__law_first 10
def B_law : Fs := fun n =>
    (fSeq (fAsg (.name 1) (fCallM m__law_begun 0 fNil))
    (fSeq (fFor (fRng rng1 (fCons (fC (.int 5)) fNil)) (.name 2)
    (fSeq (fAsg (.tup [(.name 3), (.name 4)]) (fSz .tup (fCons (fCallM m__law_hand 2 (fCons (fVar 0) (fCons (fVar 1) fNil))) (fCons (fCallM m__law_pattern 3 (fCons (fVar 0) (fCons (fVar 1) (fCons (fC (.int 3)) fNil)))) fNil))))
    (fSeq (fAsg (.name 5) (fLc (fRng rng2 (fCons (fC (.int 1)) (fCons (fC (.int 6)) fNil))) (.name 8) (fun _ => M.ret true) (fCallM m__law_first 3 (fCons (fVar 3) (fCons (fVar 4) (fCons (fVar 8) fNil)))) [8]))
    (fSeq (fAsg (.name 6) (fLc (fItA (fVar 5)) (.name 14) (fB (f2 gIsNot (fBor 14) (fC .non))) (fVar 14) [14]))
    (fSeq (fAsg (.name 7) (fCallM m_loop 2 (appFa 0 fNil (fCons (fVar 3) (fCons (fVar 4) fNil)))))
    (fSeq (fIf (fB (f2 gNe (fBor 7) (fIfE (fB (f2 gNe (fBor 6) (fSz .lst fNil))) (f2 gIxA (fBor 6) (fC (.int 0))) (fC .non))))
    (fRet (fC (.bl false)))
    fNext)
    (fSeq (fAsg (.name 8) (f2 gMul (fN gLen (fCons (fBor 4) fNil)) (f2 gAdd (fC (.int 1)) (fCallM m__law_draw 3 (fCons (fVar 0) (fCons (fVar 1) (fCons (fC (.int 2)) fNil)))))))
    (fSeq (fAsg (.name 9) (fN gTuple (fCons (fLc (fRng rng1 (fCons (fVar 8) fNil)) (.name 15) (fun _ => M.ret true) (f2 gAdd (fC (.int 1)) (fCallM m__law_draw 3 (fCons (fVar 0) (fCons (fVar 1) (fCons (fC (.int 5)) fNil))))) [15]) fNil)))
    (fSeq (fFor (fItA (f2 gAdd (fSl (fBor 6) fNoPart (fPart (fC (.int 2)))) (fSz .lst (fCons (fVar 9) (fCons (fSl (fBor 9) (fPart (fC (.int 1))) fNoPart) (fCons (f2 gMul (fBor 9) (fC (.int 2))) (fCons (fSz .tup fNil) fNil))))))) (.name 10)
    (fSeq (fAsg (.name 11) (fCallM m__law_closed 3 (fCons (fVar 3) (fCons (fVar 4) (fCons (fVar 10) fNil)))))
    (fIf (fNot (fTru (fCallM m__law_is 2 (fCons (fCallM m_is_loop 3 (appFa 2 (fCons (fVar 3) (fCons (fVar 4) fNil)) (fCons (fVar 10) fNil))) (fCons (fVar 11) fNil)))))
    (fRet (fC (.bl false)))
    fNext)))
    (fSeq (fFor (fItA (fSz .tup (fCons (fC .non) (fCons (fN gList (fCons (fBor 9) fNil)) (fCons (f2 gMul (fSz .tup (fCons (fC (.int 0)) fNil)) (fN gLen (fCons (fBor 9) fNil))) (fCons (f2 gMul (fSz .tup (fCons (fC (.bl true)) fNil)) (fN gLen (fCons (fBor 9) fNil))) (fCons (fC (.str "1")) (fCons (fC (.int 1)) fNil)))))))) (.name 12)
    (fIf (fNot (fTru (fCallM m__law_is 2 (fCons (fCallM m_is_loop 3 (fCons (fVar 3) (fCons (fVar 4) (fCons (fVar 12) fNil)))) (fCons (fC (.bl false)) fNil)))))
    (fRet (fC (.bl false)))
    fNext))
    (fSeq (fAsgO 13 (fSz .lst (fCons (fRes (fCallM m_loop 2 (fCons (fC .non) (fCons (fC .non) fNil)))) fNil)))
    (fSeq (fApp 13 (fRes (fCallM m_loop 2 (fCons (fVar 3) (fCons (fSz .tup fNil) fNil)))))
    (fSeq (fApp 13 (fRes (fCallM m_is_loop 3 (fCons (fC .non) (fCons (fC .non) (fCons (fSz .tup fNil) fNil))))))
    (fSeq (fApp 13 (fRes (fCallM m_is_loop 3 (fCons (fVar 3) (fCons (fSz .tup (fCons (fC (.int 13)) fNil)) (fCons (fSz .tup fNil) fNil))))))
    (fIf (fB (f2 gNe (fBor 13) (fSz .lst (fCons (fSz .tup (fCons (fC (.str "hand")) fNil)) (fCons (fSz .tup (fCons (fC (.str "rows")) fNil)) (fCons (fSz .tup (fCons (fC (.str "hand")) fNil)) (fCons (fSz .tup (fCons (fC (.str "rows")) fNil)) fNil)))))))
    (fRet (fC (.bl false)))
    fNext)))))))))))))))
    (fRet (fC (.bl true)))))
def m_law : List D → M D := mOf B_law 16
def qq0 : En → M Out := (fAsg (.tup [(.name 3), (.name 4)]) (fSz .tup (fCons (fCallM m__law_hand 2 (fCons (fVar 0) (fCons (fVar 1) fNil))) (fCons (fCallM m__law_pattern 3 (fCons (fVar 0) (fCons (fVar 1) (fCons (fC (.int 3)) fNil)))) fNil))))
def qq1 : En → M Out := (fAsg (.name 5) (fLc (fRng rng2 (fCons (fC (.int 1)) (fCons (fC (.int 6)) fNil))) (.name 8) (fun _ => M.ret true) (fCallM m__law_first 3 (fCons (fVar 3) (fCons (fVar 4) (fCons (fVar 8) fNil)))) [8]))
def qq2 : En → M Out := (fAsg (.name 6) (fLc (fItA (fVar 5)) (.name 14) (fB (f2 gIsNot (fBor 14) (fC .non))) (fVar 14) [14]))
def qq3 : En → M Out := (fAsg (.name 7) (fCallM m_loop 2 (appFa 0 fNil (fCons (fVar 3) (fCons (fVar 4) fNil)))))
def qq4 : En → M Out := (fIf (fB (f2 gNe (fBor 7) (fIfE (fB (f2 gNe (fBor 6) (fSz .lst fNil))) (f2 gIxA (fBor 6) (fC (.int 0))) (fC .non))))
    (fRet (fC (.bl false)))
    fNext)
def qq5 : En → M Out := (fAsg (.name 8) (f2 gMul (fN gLen (fCons (fBor 4) fNil)) (f2 gAdd (fC (.int 1)) (fCallM m__law_draw 3 (fCons (fVar 0) (fCons (fVar 1) (fCons (fC (.int 2)) fNil)))))))
def qq6 : En → M Out := (fAsg (.name 9) (fN gTuple (fCons (fLc (fRng rng1 (fCons (fVar 8) fNil)) (.name 15) (fun _ => M.ret true) (f2 gAdd (fC (.int 1)) (fCallM m__law_draw 3 (fCons (fVar 0) (fCons (fVar 1) (fCons (fC (.int 5)) fNil))))) [15]) fNil)))
def qq7 : En → M Out := (fFor (fItA (f2 gAdd (fSl (fBor 6) fNoPart (fPart (fC (.int 2)))) (fSz .lst (fCons (fVar 9) (fCons (fSl (fBor 9) (fPart (fC (.int 1))) fNoPart) (fCons (f2 gMul (fBor 9) (fC (.int 2))) (fCons (fSz .tup fNil) fNil))))))) (.name 10)
    (fSeq (fAsg (.name 11) (fCallM m__law_closed 3 (fCons (fVar 3) (fCons (fVar 4) (fCons (fVar 10) fNil)))))
    (fIf (fNot (fTru (fCallM m__law_is 2 (fCons (fCallM m_is_loop 3 (appFa 2 (fCons (fVar 3) (fCons (fVar 4) fNil)) (fCons (fVar 10) fNil))) (fCons (fVar 11) fNil)))))
    (fRet (fC (.bl false)))
    fNext)))
def qq8 : En → M Out := (fFor (fItA (fSz .tup (fCons (fC .non) (fCons (fN gList (fCons (fBor 9) fNil)) (fCons (f2 gMul (fSz .tup (fCons (fC (.int 0)) fNil)) (fN gLen (fCons (fBor 9) fNil))) (fCons (f2 gMul (fSz .tup (fCons (fC (.bl true)) fNil)) (fN gLen (fCons (fBor 9) fNil))) (fCons (fC (.str "1")) (fCons (fC (.int 1)) fNil)))))))) (.name 12)
    (fIf (fNot (fTru (fCallM m__law_is 2 (fCons (fCallM m_is_loop 3 (fCons (fVar 3) (fCons (fVar 4) (fCons (fVar 12) fNil)))) (fCons (fC (.bl false)) fNil)))))
    (fRet (fC (.bl false)))
    fNext))
def qq9 : En → M Out := (fAsgO 13 (fSz .lst (fCons (fRes (fCallM m_loop 2 (fCons (fC .non) (fCons (fC .non) fNil)))) fNil)))
def qq10 : En → M Out := (fApp 13 (fRes (fCallM m_loop 2 (fCons (fVar 3) (fCons (fSz .tup fNil) fNil)))))
def qq11 : En → M Out := (fApp 13 (fRes (fCallM m_is_loop 3 (fCons (fC .non) (fCons (fC .non) (fCons (fSz .tup fNil) fNil))))))
def qq12 : En → M Out := (fApp 13 (fRes (fCallM m_is_loop 3 (fCons (fVar 3) (fCons (fSz .tup (fCons (fC (.int 13)) fNil)) (fCons (fSz .tup fNil) fNil))))))
def qq13 : En → M Out := (fIf (fB (f2 gNe (fBor 13) (fSz .lst (fCons (fSz .tup (fCons (fC (.str "hand")) fNil)) (fCons (fSz .tup (fCons (fC (.str "rows")) fNil)) (fCons (fSz .tup (fCons (fC (.str "hand")) fNil)) (fCons (fSz .tup (fCons (fC (.str "rows")) fNil)) fNil)))))))
    (fRet (fC (.bl false)))
    fNext)
def tailB : En → M Out := (fSeq qq1 (fSeq qq2 (fSeq qq3 (fSeq qq4 (fSeq qq5 (fSeq qq6 (fSeq qq7 (fSeq qq8 (fSeq qq9 (fSeq qq10 (fSeq qq11 (fSeq qq12 qq13))))))))))))
def B_law2 : Fs := fun n =>
    (fSeq (fAsg (.name 1) (fCallM m__law_begun 0 fNil))
    (fSeq (fFor (fRng rng1 (fCons (fC (.int 5)) fNil)) (.name 2)
    (fSeq qq0 tailB))
    (fRet (fC (.bl true)))))
theorem law2 : m_law = mOf B_law2 16 := rfl
/-! ### the first loop of so many turns -/
def firstBd : En → M Out := (fSeq (fAsg (.name 4) (fSz .lst (fCons (fSz .tup (fCons (fVar 3) fNil)) fNil)))
    (fSeq (fFor (fItA (f2 gMul (fBor 1) (fBor 2))) (.name 5) stepBd)
    (fSeq (fAsg (.name 9) (fLc (fItA (fVar 4)) (.name 7) (fB (f2 gEq (f2 gIxA (fBor 7) (f1 gNeg (fC (.int 1)))) (fBor 3))) (fSl (fBor 7) fNoPart (fPart (f1 gNeg (fC (.int 1))))) [7]))
    (fIf (fB (f2 gNe (fBor 9) (fSz .lst fNil)))
    (fRet (f2 gIxA (fBor 9) (fC (.int 0))))
    fNext))))
def B_first2 : Fs := fun n =>
    (fSeq (fFor (fRng rng2 (fCons (fC (.int 1)) (fCons (fC (.int 6)) fNil))) (.name 3) firstBd)
    (fRet (fC .non)))
theorem first2 : m__law_first = mOf B_first2 10 := rfl
theorem gNe_nilL (a : List Int) : gNe (.lst [iT a]) (.lst []) = some (.bl true) := gNe_iLL0 [a]
theorem firstBd_run {h : Hand} (hh : h.Ok) {p : List Int} {m : Nat} (hm : m ≤ 5) (hp : p.length ≤ 8) {b : Int} (hb : Fg b) {x4 x5 x6 x7 x8 x9 : Sl} {τ : Tau} :
    ((if b ∈ h.T [b] (turnB (rep p m)) then some (iT (h.greedy b (rep p m) b).dropLast) else none) = none ∧ ∃ y4 y5 y6 y7 y8 y9, firstBd [.fz h.d, .fz (iT p), .fz (.int (m : Int)), .fz (.int b), x4, x5, x6, x7, x8, x9] τ = .ok (.next [.fz h.d, .fz (iT p), .fz (.int (m : Int)), .fz (.int b), y4, y5, y6, y7, y8, y9]) τ) ∨
    ∃ v, (if b ∈ h.T [b] (turnB (rep p m)) then some (iT (h.greedy b (rep p m) b).dropLast) else none) = some v ∧ firstBd [.fz h.d, .fz (iT p), .fz (.int (m : Int)), .fz (.int b), x4, x5, x6, x7, x8, x9] τ = .ok (.ret v) τ := by
  have hle : (rep p m).length ≤ 40 := by
    rw [rep_length]
    exact Nat.mul_le_mul hm hp
  obtain ⟨y5, y6, y7, y8, e1⟩ := steps_loop hh (b := b) (x1 := .fz (iT p)) (x2 := .fz (.int (m : Int))) (x3 := .fz (.int b)) (x9 := x9) (τ := τ) (rep p m) [] [[b]] x5 x6 x7 x8 (RwI.start hb) (by simp only [List.length_nil]; omega)
  have ri := h.firstR_inv hb (rep p m)
  obtain ⟨s5, srow⟩ := ri.small
  have e1 : loopF (.name 5) stepBd ((rep p m).map .int) [.fz h.d, .fz (iT p), .fz (.int (m : Int)), .fz (.int b), .fz (.lst [.tup [.int b]]), x5, x6, x7, x8, x9] τ = .ok (.next [.fz h.d, .fz (iT p), .fz (.int (m : Int)), .fz (.int b), .fz (iLL (h.firstR b (rep p m))), y5, y6, y7, y8, x9]) τ := e1
  have e2 : fLc (fItA (fVar 4)) (.name 7) (fB (f2 gEq (f2 gIxA (fBor 7) (f1 gNeg (fC (.int 1)))) (fBor 3))) (fSl (fBor 7) fNoPart (fPart (f1 gNeg (fC (.int 1))))) [7] [.fz h.d, .fz (iT p), .fz (.int (m : Int)), .fz (.int b), .fz (iLL (h.firstR b (rep p m))), y5, y6, y7, y8, x9] τ = .ok (.lst (((h.firstR b (rep p m)).filter fun r => decide (lst r = b)).map fun r => iT r.dropLast)) τ := by
    refine fLc_map iT (h.firstR b (rep p m)) (fun r => decide (lst r = b)) (fun r => iT r.dropLast) ?h1 ?h2 ?h3
    case h1 => simp only [fItA_r, fVar_r, List.getElem?_cons_zero, List.getElem?_cons_succ, opt_some_r, bd_ok, items0_lst]
    case h2 => show _ ≤ 1000000; omega
    case h3 =>
      intro r hr
      obtain ⟨l, f, e, hf, hl⟩ := srow r hr
      refine ⟨_, bindD_name _ _ _, ?_, fun _ => ?_⟩
      · have g : gIxA (iT r) (.int (-1)) = some (.int f) := by rw [e]; exact last_ix l f
        have el : lst r = f := by rw [e]; simp [lst]
        simp only [wipeE, List.set_cons_succ, List.set_cons_zero, fB_r, f2_r, f1_r, fBor_r, fC_r, gNeg_int, List.getElem?_cons_zero, List.getElem?_cons_succ, opt_some_r, bd_ok, g, gEq_int, toB_r, el]
      · simp only [wipeE, List.set_cons_succ, List.set_cons_zero, fSl_r, fBor_r, fPart_r, f1_r, fC_r, gNeg_int, fNoPart_r, opt_some_r, bd_ok, List.getElem?_cons_zero, List.getElem?_cons_succ, intD_int, gSl_init]
  rw [Hand.firstR_good hb] at e2
  have st : firstBd [.fz h.d, .fz (iT p), .fz (.int (m : Int)), .fz (.int b), x4, x5, x6, x7, x8, x9] τ = (fIf (fB (f2 gNe (fBor 9) (fSz .lst fNil)))
    (fRet (f2 gIxA (fBor 9) (fC (.int 0))))
    fNext) [.fz h.d, .fz (iT p), .fz (.int (m : Int)), .fz (.int b), .fz (iLL (h.firstR b (rep p m))), y5, y6, y7, y8, .fz (.lst ((if b ∈ h.T [b] (turnB (rep p m)) then [h.greedy b (rep p m) b] else []).map fun r => iT r.dropLast))] τ := by
    unfold firstBd
    simp only [fSeq_r, fAsg_r, fSz_r, fCons_r, fVar_r, fNil_r, List.set_cons_succ, List.set_cons_zero, List.getElem?_cons_zero, List.getElem?_cons_succ, opt_some_r, bd_ok, List.length_cons, List.length_nil, SZ_eq, Nat.reduceAdd, Nat.reduceLeDiff, if_true, bindD_name, seqK_next, fFor_r, fItA_r, f2_r, fBor_r, gMul_rep p m (by omega) (by omega), items0_tup]
    rw [e1]
    simp only [bd_ok, seqK_next, fSeq_r, fAsg_r]
    rw [e2]
    simp only [bd_ok, bindD_name, opt_some_r, seqK_next, List.set_cons_succ, List.set_cons_zero]
  rw [st]
  by_cases c : b ∈ h.T [b] (turnB (rep p m))
  · right
    refine ⟨_, if_pos c, ?_⟩
    simp only [if_pos c, List.map_cons, List.map_nil, fIf_r, fB_r, f2_r, fBor_r, fSz_r, fNil_r, fRet_r, fC_r, List.getElem?_cons_zero, List.getElem?_cons_succ, opt_some_r, bd_ok, List.length_cons, List.length_nil, SZ_eq, Nat.zero_le, if_true, gNe_nilL, toB_r, gIxA_L0]
  · left
    refine ⟨if_neg c, .fz (iLL (h.firstR b (rep p m))), y5, y6, y7, y8, .fz (.lst []), ?_⟩
    simp only [if_neg c, List.map_nil, fIf_r, fB_r, f2_r, fBor_r, fSz_r, fNil_r, fRet_r, fC_r, List.getElem?_cons_zero, List.getElem?_cons_succ, opt_some_r, bd_ok, List.length_cons, List.length_nil, SZ_eq, Nat.zero_le, if_true, show gNe (.lst []) (.lst []) = some (.bl false) from rfl, toB_r, Bool.false_eq_true, if_false, fNext_r]
theorem law_first_run {h : Hand} (hh : h.Ok) {p : List Int} (hp : p.length ≤ 8) {m : Nat} (hm : m ≤ 5) (τ : Tau) : m__law_first [h.d, iT p, .int (m : Int)] τ = .ok (optT ((h.closedOf (rep p m)).map List.dropLast)) τ := by
  rw [first2]
  simp only [mOf_r, B_first2, fSeq_r, fFor_r, fRng_r, fCons_r, fNil_r, fC_r, bd_ok, rng_fing, opt_some_r, List.map_cons, List.map_nil, List.cons_append, List.nil_append]
  have key := loop_find (t := .name 3) (τ := τ) (body := firstBd) D.int (fun b => if b ∈ h.T [b] (turnB (rep p m)) then some (iT (h.greedy b (rep p m) b).dropLast) else none) (fun ρ => ∃ a b c d e f g, ρ = [.fz h.d, .fz (iT p), .fz (.int (m : Int)), a, b, c, d, e, f, g]) FING (ρ := [.fz h.d, .fz (iT p), .fz (.int (m : Int)), .un, .un, .un, .un, .un, .un, .un]) ⟨_, _, _, _, _, _, _, rfl⟩ ?_
  · have hc : optT ((h.closedOf (rep p m)).map List.dropLast) = (FING.findSome? fun b => if b ∈ h.T [b] (turnB (rep p m)) then some (iT (h.greedy b (rep p m) b).dropLast) else none).getD .non := by
      rw [optT_eq, Hand.closedOf, ← fs_map, ← fs_map]
      congr 2
      funext f
      split <;> rfl
    rcases key with ⟨e, ρ2, e2, x, y, z, u, v, w, t, rfl⟩ | ⟨v, e, e2⟩
    · show (((loopF _ _ (FING.map .int) [.fz h.d, .fz (iT p), .fz (.int (m : Int)), .un, .un, .un, .un, .un, .un, .un] τ).bd _).bd _) = _
      rw [e2, hc, e]; rfl
    · show (((loopF _ _ (FING.map .int) [.fz h.d, .fz (iT p), .fz (.int (m : Int)), .un, .un, .un, .un, .un, .un, .un] τ).bd _).bd _) = _
      rw [e2, hc, e]; rfl
  · rintro b hb _ ⟨a, x4, x5, x6, x7, x8, x9, rfl⟩
    refine ⟨_, bindD_name _ _ _, ?_⟩
    simp only [List.set_cons_succ, List.set_cons_zero]
    rcases firstBd_run hh hm hp (fing_fg.mp hb) (x4 := x4) (x5 := x5) (x6 := x6) (x7 := x7) (x8 := x8) (x9 := x9) (τ := τ) with ⟨e, y4, y5, y6, y7, y8, y9, e2⟩ | ⟨v, e, e2⟩
    · exact .inl ⟨e, _, e2, _, _, _, _, _, _, _, rfl⟩
    · exact .inr ⟨v, e, e2⟩
/-! ### is_loop by own code -/
theorem Hand.play_ix {h : Hand} : ∀ {p r : List Int}, r.length = p.length + 1 → (h.play p r = true ↔ ∀ i, i < p.length → h.st (r.getD i 0) (p.getD i 0) (r.getD (i + 1) 0) = true)
  | [], r, hl => by
    constructor
    · intro _ i hi; simp at hi
    · intro _
      unfold Hand.play
      simp
  | s :: p, [], hl => by simp at hl
  | s :: p, [a], hl => by simp at hl
  | s :: p, a :: b :: r, hl => by
    have ih := Hand.play_ix (h := h) (p := p) (r := b :: r) (by simpa using hl)
    have e : h.play (s :: p) (a :: b :: r) = (h.st a s b && h.play p (b :: r)) := rfl
    rw [e, Bool.and_eq_true, ih]
    constructor
    · rintro ⟨h1, h2⟩ i hi
      cases i with
      | zero => exact h1
      | succ i => exact h2 i (by simpa using hi)
    · intro k
      exact ⟨k 0 (by simp), fun i hi => k (i + 1) (by simpa using hi)⟩
theorem gd_l {a b : List Int} {i : Nat} (h : i < a.length) : (a ++ b).getD i 0 = a.getD i 0 := by
  rw [List.getD_eq_getElem?_getD, List.getElem?_append_left h, ← List.getD_eq_getElem?_getD]
theorem gd_r {a b : List Int} {i : Nat} (h : a.length ≤ i) : (a ++ b).getD i 0 = b.getD (i - a.length) 0 := by
  rw [List.getD_eq_getElem?_getD, List.getElem?_append_right h, ← List.getD_eq_getElem?_getD]
theorem rep_ix (p : List Int) : ∀ (k i : Nat), i < k * p.length → (rep p k).getD i 0 = p.getD (i % p.length) 0
  | 0, i, h => by simp at h
  | k + 1, i, h => by
    rw [rep_succ]
    by_cases c : i < p.length
    · rw [Nat.mod_eq_of_lt c, gd_l c]
    · rw [gd_r (by omega), rep_ix p k (i - p.length) (by rw [Nat.add_mul] at h; omega), ← Nat.mod_eq_sub_mod (by omega)]
theorem closed_plain {h : Hand} {p r : List Int} (l1 : 1 ≤ p.length) (hf : ∀ f ∈ r, Fg f) (c1 : r ≠ []) (c2 : r.length % p.length = 0) : h.isLoopB p r = (List.range r.length).all fun i => h.st (r.getD i 0) (p.getD (i % p.length) 0) (r.getD ((i + 1) % r.length) 0) := by
  have hk : r.length / p.length * p.length = r.length := Nat.div_mul_cancel (Nat.dvd_of_mod_eq_zero c2)
  have r1 : 1 ≤ r.length := by cases r with
    | nil => exact absurd rfl c1
    | cons a r => simp
  have e1 : h.isLoopB p r = h.play (rep p (r.length / p.length)) (r ++ r.take 1) := by
    unfold Hand.isLoopB
    have : fgB r = true := fgB_iff.mpr hf
    simp [c1, c2, this]
  rw [e1]
  have := Hand.play_ix (h := h) (p := rep p (r.length / p.length)) (r := r ++ r.take 1) (by rw [rep_length, hk, List.length_append, List.length_take]; omega)
  rw [Bool.eq_iff_iff, this, List.all_eq_true]
  rw [rep_length, hk]
  have key : ∀ i, i < r.length → (h.st ((r ++ r.take 1).getD i 0) ((rep p (r.length / p.length)).getD i 0) ((r ++ r.take 1).getD (i + 1) 0) = h.st (r.getD i 0) (p.getD (i % p.length) 0) (r.getD ((i + 1) % r.length) 0)) := fun i hi => by
    rw [gd_l hi, rep_ix p _ i (by rw [hk]; exact hi)]
    congr 1
    by_cases c : i + 1 < r.length
    · rw [gd_l c, Nat.mod_eq_of_lt c]
    · have : i + 1 = r.length := by omega
      rw [this, Nat.mod_self, gd_r (Nat.le_refl _), Nat.sub_self]
      cases r with
      | nil => exact absurd rfl c1
      | cons a r => rfl
  constructor
  · intro k i hi
    have hi := List.mem_range.mp hi
    rw [← key i hi]
    exact k i hi
  · intro k i hi
    rw [key i hi]
    exact k i (List.mem_range.mpr hi)
theorem ixT (l : List Int) {i : Nat} (hi : i < l.length) : gIxA (iT l) (.int (i : Int)) = some (.int (l.getD i 0)) := by
  rw [gIxA_tup, List.getElem?_map, List.getD_eq_getElem?_getD, List.getElem?_eq_getElem hi]
  rfl
theorem law_closed_run {h : Hand} (hh : h.Ok) {p r : List Int} (hp : Pat p) (hf : ∀ f ∈ r, Fg f) (hr : r.length ≤ 900) (τ : Tau) : m__law_closed [h.d, iT p, iT r] τ = .ok (.bl (h.isLoopB p r)) τ := by
  have l1 := hp.l1
  have h0 : (0 : Int) < p.length := by omega
  have em : gMod (.int (r.length : Int)) (.int (p.length : Int)) = some (.int ((r.length % p.length : Nat) : Int)) := by rw [gMod_int _ _ h0]; rfl
  simp [m__law_closed, B__law_closed]
  by_cases c1 : r = []
  · subst c1
    simp [Hand.isLoopB]
  · by_cases c2 : r.length % p.length = 0
    · have hr0 : 0 < r.length := by cases r with
        | nil => exact absurd rfl c1
        | cons a r => simp
      simp [c1, em, c2]
      rw [rng_idx _ (by omega)]
      simp only [opt_some_r, bd_ok]
      unfold idx
      refine loop_all_bd (fun j : Nat => D.int ((0 + j : Nat) : Int)) (fun i => h.st (r.getD i 0) (p.getD (i % p.length) 0) (r.getD ((i + 1) % r.length) 0)) (.bl false) (fun ρ => ∃ a, ρ = [.fz h.d, .fz (iT p), .fz (iT r), a]) (List.range r.length) ⟨_, rfl⟩ ?_ ?_ ?_
      · rintro i hi _ ⟨a, rfl⟩
        have hi := List.mem_range.mp hi
        refine ⟨_, bindD_name _ _ _, ?_⟩
        have i1 := ixT r hi
        have hm1 : i % p.length < p.length := Nat.mod_lt _ (by omega)
        have hm2 : (i + 1) % r.length < r.length := Nat.mod_lt _ hr0
        have i2 := ixT p hm1
        have i3 := ixT r hm2
        have g1 : gMod (.int (i : Int)) (.int (p.length : Int)) = some (.int ((i % p.length : Nat) : Int)) := by rw [gMod_int _ _ h0]; rfl
        have g2 : gMod (.int ((i : Int) + 1)) (.int (r.length : Int)) = some (.int (((i + 1) % r.length : Nat) : Int)) := by rw [gMod_int _ _ (by omega)]; rfl
        have fa : Fg (r.getD i 0) := by
          rw [List.getD_eq_getElem?_getD, List.getElem?_eq_getElem hi]
          exact hf _ (List.getElem_mem hi)
        have fb : Fg (r.getD ((i + 1) % r.length) 0) := by
          rw [List.getD_eq_getElem?_getD, List.getElem?_eq_getElem hm2]
          exact hf _ (List.getElem_mem hm2)
        have run := law_does_run hh (s := p.getD (i % p.length) 0) fa fb τ
        simp only [Nat.zero_add, List.set_cons_succ, List.set_cons_zero, fIf_r, fNot_r, fTru_r, fCallM_r, fCons_r, fVar_r, f2_r, fBor_r, fN_r, fC_r, fNil_r, List.getElem?_cons_zero, List.getElem?_cons_succ, opt_some_r, bd_ok, gLen_tup, List.length_map, i1, i2, i3, g1, g2, gAdd_int, List.length_cons, List.length_nil, if_true, run, truD_bl]
        cases hq : h.st (r.getD i 0) (p.getD (i % p.length) 0) (r.getD ((i + 1) % r.length) 0) with
        | true => exact .inl ⟨rfl, _, rfl, _, rfl⟩
        | false => exact .inr ⟨rfl, rfl⟩
      · rintro e _ ⟨a, rfl⟩
        rw [closed_plain l1 hf c1 c2, e]
        simp
      · intro e
        rw [closed_plain l1 hf c1 c2, e]
        simp
    · have : ¬ ((r.length : Int) % (p.length : Int) = 0) := fun z => c2 (by exact_mod_cast z)
      have e : h.isLoopB p r = false := by unfold Hand.isLoopB; simp [c2]
      simp [c1, em, e]
      intro z
      exact absurd (by exact_mod_cast z) c2

/-! ### the law -/
def Hand.rowO (h : Hand) (p : List Int) (m : Int) : Option (List Int) := (h.closedOf (rep p m.toNat)).map List.dropLast
def Hand.good (h : Hand) (p : List Int) : List (List Int) := FING.filterMap (h.rowO p)
theorem Hand.good_head {h : Hand} {p : List Int} : (h.good p).head? = h.loopO p := by
  unfold Hand.good Hand.loopO
  rw [List.head?_filterMap]
  rfl
theorem flt_some : ∀ l : List (Option (List Int)), (l.filter fun o => !isNon (optT o)).map optT = (l.filterMap id).map iT
  | [] => rfl
  | none :: l => by
    have ih := flt_some l
    simpa [isNon, optT] using ih
  | some a :: l => by
    have ih := flt_some l
    simp [isNon, optT] at ih ⊢
    exact ih
theorem Hand.good_fg {h : Hand} {p r : List Int} (hp : p.length ≤ 8) (hr : r ∈ h.good p) : (∀ f ∈ r, Fg f) ∧ r.length ≤ 900 := by
  obtain ⟨m, hm, e⟩ := List.mem_filterMap.mp hr
  have fm := fing_fg.mp hm
  obtain ⟨y, q, rfl⟩ := Option.map_eq_some_iff.mp e
  obtain ⟨f, hf, w, rfl, _⟩ := Hand.closedOf_some q
  obtain ⟨x, _⟩ := Hand.greedy_row hf hf w
  refine ⟨fun g hg => x.fg g ((List.dropLast_sublist _).subset hg), ?_⟩
  rw [List.length_dropLast, h.greedy_len, rep_length]
  have h5 : m.toNat ≤ 5 := by have := fm.2; omega
  have := Nat.mul_le_mul h5 hp
  omega
theorem Hand.good_len {h : Hand} {p : List Int} : (h.good p).length ≤ 5 := by
  unfold Hand.good
  exact Nat.le_trans (List.length_filterMap_le _ _) (by decide)
theorem loop_odd {h : Hand} (hh : h.Ok) {p : List Int} (hp : Pat p) {d : D} (hd : isiD "tuple" d = some (.bl false)) (τ : Tau) : m_is_loop [h.d, iT p, d] τ = .ok (.bl false) τ := by
  simp [m_is_loop, B_is_loop, check_pattern_run hh hp, hd]
theorem loop_true {h : Hand} (hh : h.Ok) {p : List Int} (hp : Pat p) {n : Nat} (hn : n ≤ 900) (τ : Tau) : m_is_loop [h.d, iT p, .tup (List.replicate n (.bl true))] τ = .ok (.bl false) τ := by
  have l1 := hp.l1
  have h0 : (0 : Int) < p.length := by omega
  have em : gMod (.int (n : Int)) (.int (p.length : Int)) = some (.int ((n % p.length : Nat) : Int)) := by rw [gMod_int _ _ h0]; rfl
  have eq : gEq (.tup (List.replicate n (.bl true))) (.tup []) = some (.bl (decide (n = 0))) := by
    cases n with
    | zero => rfl
    | succ n =>
      have : okd 32 (.tup (List.replicate (n + 1) (.bl true))) = true := by
        rw [okd_tup, List.all_eq_true]
        intro x hx
        rw [List.eq_of_mem_replicate hx]
        rfl
      unfold gEq
      rw [if_pos ⟨this, rfl⟩]
      rfl
  have lc : ∀ (ρ : En), ρ[2]? = some (.fz (.tup (List.replicate n (.bl true)))) → 3 < ρ.length → fLc (fItA (fVar 2)) (.name 3) (fun _ => M.ret true) (fCallM m_is_between 3 (fCons (fVar 3) (fCons (fC (.int 1)) (fCons (fC (.int 5)) fNil)))) [3] ρ τ = .ok (.lst ((List.replicate n (D.bl true)).map fun _ => .bl false)) τ := fun ρ hi hj => by
    refine fLc_all (fun d : D => d) (List.replicate n (D.bl true)) (fun _ => .bl false) ?_ ?_ ?_
    · simp [hi]
    · show _ ≤ 1000000; simp; omega
    · intro x hx
      rw [List.eq_of_mem_replicate hx]
      refine ⟨_, bindD_name _ _ _, ?_⟩
      have : m_is_between [.bl true, .int 1, .int 5] τ = .ok (.bl false) τ := rfl
      simp [wipeE, hj, this]
  simp [m_is_loop, B_is_loop, check_pattern_run hh hp, isiD, tyN, isiB, eq]
  by_cases c1 : n = 0
  · subst c1; simp
  · by_cases c2 : n % p.length = 0
    · simp [c1, em, c2]
      rw [lc _ rfl (by simp)]
      have a : gAll [.lst ((List.replicate n (D.bl true)).map fun _ => .bl false)] = some (.bl false) := by
        rw [gAll_map]
        congr 2
        obtain ⟨m, rfl⟩ : ∃ m, n = m + 1 := ⟨n - 1, by omega⟩
        rfl
      simp only [bd_ok, a, opt_some_r, truD_bl, Bool.not_false, if_true, fRet_r, fC_r, seqK_ret, outD_ret]
    · simp [c1, em, c2]
      intro z
      exact absurd (by exact_mod_cast z) c2

theorem chk_odd {h : Hand} (hh : h.Ok) {d : D} (hd : ∀ τ, m_is_pattern [d] τ = .ok (.bl false) τ) (τ : Tau) : m_check_pattern [h.d, d] τ = .exc .pattern τ := by
  simp [m_check_pattern, B_check_pattern, check_hand_run hh, hd]
theorem an1 (τ : Tau) : m_loop [.non, .non] τ = .exc .hand τ := rfl
theorem an2 {h : Hand} (hh : h.Ok) (τ : Tau) : m_loop [h.d, .tup []] τ = .exc .pattern τ := by
  simp [m_loop, B_loop, chk_odd hh (d := .tup []) (fun _ => rfl)]
theorem an3 (τ : Tau) : m_is_loop [.non, .non, .tup []] τ = .exc .hand τ := rfl
theorem an4 {h : Hand} (hh : h.Ok) (τ : Tau) : m_is_loop [h.d, .tup [.int 13], .tup []] τ = .exc .pattern τ := by
  simp [m_is_loop, B_is_loop, chk_odd hh (d := .tup [.int 13]) (fun _ => rfl)]
theorem an5 : gNe (.lst [.tup [.str "hand"], .tup [.str "rows"], .tup [.str "hand"], .tup [.str "rows"]]) (.lst [.tup [.str "hand"], .tup [.str "rows"], .tup [.str "hand"], .tup [.str "rows"]]) = some (.bl false) := by kernel_rfl
def EnvL (ns : List Int) (h : Hand) (p dr : List Int) (ρ : En) : Prop := ∃ a b c d e f g i j k, ρ = [.fz (.scr ns), .fz (.obj 0), a, .fz h.d, .fz (iT p), b, .fz (iLL (h.good p)), c, d, .fz (iT dr), e, f, g, i, j, k]
abbrev IL (ns : List Int) (h : Hand) (p dr : List Int) : En → Tau → Prop := fun ρ τ => Town ns 0 τ ∧ EnvL ns h p dr ρ
theorem gMul_true (n : Nat) (hn : n ≤ 900) : gMul (.tup [.bl true]) (.int (n : Int)) = some (.tup (List.replicate n (.bl true))) := by
  have : mT (.tup [.bl true]) (.int (n : Int)) = some (.tup (List.replicate n (.bl true))) := by
    show (if _ then _ else _) = _
    rw [if_pos ⟨by simp, by omega, by omega⟩]
    congr 2
    simp
  simp [gMul, onIc, this]
theorem rep_zero_fg {n : Nat} (hn : 1 ≤ n) : fgB (rep [0] n) = false := by
  obtain ⟨m, rfl⟩ : ∃ m, n = m + 1 := ⟨n - 1, by omega⟩
  rw [rep_succ]
  rfl
theorem seq_asc (a b c : En → M Out) : fSeq a (fSeq b c) = fSeq (fSeq a b) c := by
  funext ρ τ
  simp only [fSeq_r]
  cases a ρ τ with
  | ok o t => cases o <;> simp [seqK]
  | exc e t => rfl
  | stuck => rfl
theorem sm64 (n : Nat) (h : n ≤ 8) : (-(2 ^ 64) < (n : Int) ∧ (n : Int) < 2 ^ 64) := ⟨by omega, by omega⟩
theorem gMul_nat (n : Nat) (h : n ≤ 8) (k : Nat) : gMul (.int (n : Int)) (.int (k : Int)) = some (.int ((n * k : Nat) : Int)) := by
  rw [gMul_int _ _ (.inl (sm64 n h)), ← Int.natCast_mul]
section
variable {ns : List Int} (hn : ns.length ≤ 63) {h : Hand} (hh : h.Ok) {p : List Int} (hp : Pat p)
include hn hh hp
theorem qq1_run {x2 x5 x6 x7 x8 x9 xa xb xc xd xe xf : Sl} {τ : Tau} : qq1 [.fz (.scr ns), .fz (.obj 0), x2, .fz h.d, .fz (iT p), x5, x6, x7, x8, x9, xa, xb, xc, xd, xe, xf] τ = .ok (.next [.fz (.scr ns), .fz (.obj 0), x2, .fz h.d, .fz (iT p), .fz (.lst ((FING.map (h.rowO p)).map optT)), x6, x7, x8, x9, xa, xb, xc, xd, xe, xf]) τ := by
  have e : fLc (fRng rng2 (fCons (fC (.int 1)) (fCons (fC (.int 6)) fNil))) (.name 8) (fun _ => M.ret true) (fCallM m__law_first 3 (fCons (fVar 3) (fCons (fVar 4) (fCons (fVar 8) fNil)))) [8] [.fz (.scr ns), .fz (.obj 0), x2, .fz h.d, .fz (iT p), x5, x6, x7, x8, x9, xa, xb, xc, xd, xe, xf] τ = .ok (.lst (FING.map fun m => optT (h.rowO p m))) τ := by
    refine fLc_all D.int FING (fun m => optT (h.rowO p m)) ?_ ?_ ?_
    · simp [rng_fing]
    · decide
    · intro m hm
      have fm := fing_fg.mp hm
      obtain ⟨k, rfl⟩ : ∃ k : Nat, m = k := ⟨m.toNat, by have := fm.1; omega⟩
      refine ⟨_, bindD_name _ _ _, ?_⟩
      have := law_first_run hh hp.l8 (m := k) (by have := fm.2; omega) τ
      simp only [wipeE, List.set_cons_succ, List.set_cons_zero, fCallM_r, fCons_r, fVar_r, fNil_r, List.getElem?_cons_zero, List.getElem?_cons_succ, opt_some_r, bd_ok, List.length_cons, List.length_nil, if_true, this]
      rfl
  unfold qq1
  rw [fAsg_r, e, bd_ok, bindD_name, opt_some_r, bd_ok, List.map_map]
  rfl
theorem qq2_run {x2 x6 x7 x8 x9 xa xb xc xd xe xf : Sl} {τ : Tau} : qq2 [.fz (.scr ns), .fz (.obj 0), x2, .fz h.d, .fz (iT p), .fz (.lst ((FING.map (h.rowO p)).map optT)), x6, x7, x8, x9, xa, xb, xc, xd, xe, xf] τ = .ok (.next [.fz (.scr ns), .fz (.obj 0), x2, .fz h.d, .fz (iT p), .fz (.lst ((FING.map (h.rowO p)).map optT)), .fz (iLL (h.good p)), x7, x8, x9, xa, xb, xc, xd, xe, xf]) τ := by
  have e : fLc (fItA (fVar 5)) (.name 14) (fB (f2 gIsNot (fBor 14) (fC .non))) (fVar 14) [14] [.fz (.scr ns), .fz (.obj 0), x2, .fz h.d, .fz (iT p), .fz (.lst ((FING.map (h.rowO p)).map optT)), x6, x7, x8, x9, xa, xb, xc, xd, xe, xf] τ = .ok (.lst (((FING.map (h.rowO p)).filter fun o => !isNon (optT o)).map optT)) τ := by
    refine fLc_map optT (FING.map (h.rowO p)) (fun o => !isNon (optT o)) optT ?_ ?_ ?_
    · simp only [fItA_r, fVar_r, List.getElem?_cons_zero, List.getElem?_cons_succ, opt_some_r, bd_ok, items0_lst]
    · simp only [List.length_map]; decide
    · intro o ho
      refine ⟨_, bindD_name _ _ _, ?_, fun _ => ?_⟩
      · simp only [wipeE, List.set_cons_succ, List.set_cons_zero, fB_r, f2_r, fBor_r, fC_r, List.getElem?_cons_zero, List.getElem?_cons_succ, opt_some_r, bd_ok, gIsNot_non, toB_r]
      · simp only [wipeE, List.set_cons_succ, List.set_cons_zero, fVar_r, List.getElem?_cons_zero, List.getElem?_cons_succ, opt_some_r, bd_ok]
  unfold qq2
  rw [fAsg_r, e, bd_ok, bindD_name, opt_some_r, bd_ok, flt_some, List.filterMap_map]
  rfl
theorem qq34_run {x2 x5 x7 x8 x9 xa xb xc xd xe xf : Sl} {τ : Tau} : (fSeq qq3 qq4) [.fz (.scr ns), .fz (.obj 0), x2, .fz h.d, .fz (iT p), x5, .fz (iLL (h.good p)), x7, x8, x9, xa, xb, xc, xd, xe, xf] τ = .ok (.next [.fz (.scr ns), .fz (.obj 0), x2, .fz h.d, .fz (iT p), x5, .fz (iLL (h.good p)), .fz (optT (h.loopO p)), x8, x9, xa, xb, xc, xd, xe, xf]) τ := by
  unfold qq3 qq4
  have e := loop_run hh hp τ
  have g := Hand.good_head (h := h) (p := p)
  simp [e]
  rw [← g, gNe_iLL0]
  cases hq : h.good p with
  | nil => simp [optT, show gNe .non .non = some (.bl false) from rfl]
  | cons a l =>
    have : gNe (iT a) (iT a) = some (.bl false) := by simp
    have e0 : gIxA (iLL (a :: l)) (.int 0) = some (iT a) := gIxA_L0 _ _
    simp [optT, this, e0]
theorem qq5_run {x2 x5 x7 x8 x9 xa xb xc xd xe xf : Sl} {τ : Tau} (T : Town ns 0 τ) : (qq5 [.fz (.scr ns), .fz (.obj 0), x2, .fz h.d, .fz (iT p), x5, .fz (iLL (h.good p)), x7, x8, x9, xa, xb, xc, xd, xe, xf] τ).sat fun o τ' => ∃ N : Nat, o = .next [.fz (.scr ns), .fz (.obj 0), x2, .fz h.d, .fz (iT p), x5, .fz (iLL (h.good p)), x7, .fz (.int (N : Int)), x9, xa, xb, xc, xd, xe, xf] ∧ Town ns 0 τ' ∧ 1 ≤ N ∧ N ≤ 20 := by
  have l1 := hp.l1
  have l8 := hp.l8
  unfold qq5
  simp only [fAsg_r, f2_r, fN_r, fCons_r, fBor_r, fNil_r, fC_r, fCallM_r, fVar_r, List.getElem?_cons_zero, List.getElem?_cons_succ, opt_some_r, bd_ok, gLen_tup, List.length_map, List.length_cons, List.length_nil, if_true, bd_assoc, Nat.reduceAdd]
  refine draw_bd (many := 2) hn T (by decide) (by decide) ?_
  intro r τ3 r0 r1 T3
  have hk : r.toNat ≤ 1 := by omega
  have ek : 1 + r = ((1 + r.toNat : Nat) : Int) := by omega
  generalize r.toNat = k at *
  have hle : p.length * (1 + k) ≤ 8 * 2 := Nat.mul_le_mul l8 (by omega)
  have hge : 1 * 1 ≤ p.length * (1 + k) := Nat.mul_le_mul l1 (by omega)
  rw [gAdd_int, opt_some_r, bd_ok, ek, gMul_nat _ l8, opt_some_r, bd_ok, bindD_name, opt_some_r, bd_ok]
  generalize p.length * (1 + k) = N at *
  exact ⟨N, rfl, T3, hge, Nat.le_trans hle (by decide)⟩
theorem qq6_run {x2 x5 x7 x9 xa xb xc xd xe xf : Sl} {N : Nat} (n1 : 1 ≤ N) (n20 : N ≤ 20) {τ : Tau} (T : Town ns 0 τ) : (qq6 [.fz (.scr ns), .fz (.obj 0), x2, .fz h.d, .fz (iT p), x5, .fz (iLL (h.good p)), x7, .fz (.int (N : Int)), x9, xa, xb, xc, xd, xe, xf] τ).sat fun o τ' => ∃ ρ dr, o = .next ρ ∧ Town ns 0 τ' ∧ (∀ f ∈ dr, Fg f) ∧ (1 ≤ dr.length ∧ dr.length ≤ 20) ∧ EnvL ns h p dr ρ := by
  unfold qq6
  rw [fAsg_r, fN_r, fCons_r, fLc_r, fRng_r, fCons_r, fVar_r]
  simp only [fNil_r, List.getElem?_cons_zero, List.getElem?_cons_succ, opt_some_r, bd_ok]
  rw [rng1_run _ (by omega), opt_some_r, bd_ok, List.length_map, upto_len, if_pos (show N ≤ SZ by show _ ≤ 1000000; omega)]
  refine sat_bd (sat_bd (sat_bd (sat_bd (sat_imp (lcF_sat D.int (fun τ => Town ns 0 τ) (fun i => Fg i) (upto N) τ T ?_) ?_))))
  · intro a _ τ T
    refine ⟨_, bindD_name _ _ _, ?_⟩
    simp [wipeE]
    refine draw_bd hn T (by decide) (by decide) fun q τ2 q0 q1 T2 => ?_
    simp
    exact ⟨⟨by omega, by omega⟩, T2⟩
  · rintro _ τ4 ⟨⟨is, rfl, hl, hP⟩, T4⟩
    rw [upto_len] at hl
    simp
    exact ⟨T4, is, hP, ⟨by omega, by omega⟩, _, _, _, _, _, _, _, _, _, _, rfl⟩
theorem qq7_run {dr : List Int} (hd : ∀ f ∈ dr, Fg f) (h20 : dr.length ≤ 20) : Goes (IL ns h p dr) qq7 := by
  have gl := Hand.good_len (h := h) (p := p)
  have gf := fun r => Hand.good_fg (h := h) (p := p) (r := r) hp.l8
  unfold qq7
  refine Goes.loop (((h.good p).take 2 ++ [dr, dr.tail, rep dr 2, []]).map iT) ?_ ?_
  · rintro ρ τ ⟨T, a, b, c, d, e, f, g, i, j, k, rfl⟩
    have e1 : gSl (iLL (h.good p)) none (some 2) = some (.lst (((h.good p).take 2).map iT)) := by rw [iLL, show (2 : Int) = ((2 : Nat) : Int) from rfl, gSl_takeL, List.map_take]
    have e2 : gMul (iT dr) (.int 2) = some (iT (rep dr 2)) := gMul_rep dr 2 (by omega) (by omega)
    have e3 : gAdd (.lst (((h.good p).take 2).map iT)) (.lst [iT dr, iT dr.tail, iT (rep dr 2), .tup []]) = some (.lst (((h.good p).take 2 ++ [dr, dr.tail, rep dr 2, []]).map iT)) := by
      rw [gAdd_lst _ _ (by simp; omega), List.map_append]
      rfl
    simp only [fItA_r, f2_r, fSl_r, fBor_r, fNoPart_r, fPart_r, fC_r, fSz_r, fCons_r, fVar_r, fNil_r, List.getElem?_cons_zero, List.getElem?_cons_succ, opt_some_r, bd_ok, intD_int, e1, e2, gSl_tail, List.length_cons, List.length_nil, SZ_eq, Nat.reduceAdd, Nat.reduceLeDiff, Nat.zero_le, if_true, e3, items0_lst]
  · rintro x hx ρ τ ⟨T, a, b, c, d, e, f, g, i, j, k, rfl⟩
    obtain ⟨r, hr, rfl⟩ := List.mem_map.mp hx
    have key : (∀ f ∈ r, Fg f) ∧ r.length ≤ 900 := by
      rcases List.mem_append.mp hr with hr | hr
      · exact gf r (List.mem_of_mem_take hr)
      · simp only [List.mem_cons, List.not_mem_nil, or_false] at hr
        rcases hr with rfl | rfl | rfl | rfl
        · exact ⟨hd, by omega⟩
        · exact ⟨fun f hf => hd f (List.mem_of_mem_tail hf), by rw [List.length_tail]; omega⟩
        · refine ⟨fun f hf => ?_, by rw [rep_length]; omega⟩
          rw [show rep dr 2 = dr ++ dr by simp [rep]] at hf
          rcases List.mem_append.mp hf with z | z <;> exact hd f z
        · exact ⟨(fun f hf => nomatch hf), Nat.zero_le _⟩
    refine ⟨_, bindD_name _ _ _, ?_⟩
    have r1 := law_closed_run hh hp key.1 key.2 τ
    have r2 := is_loop_run hh hp key.2 τ
    simp [r1, r2, law_is_run]
    exact ⟨T, _, _, _, _, _, _, _, _, _, _, rfl⟩
theorem qq8_run {dr : List Int} (h1 : 1 ≤ dr.length) (h20 : dr.length ≤ 20) : Goes (IL ns h p dr) qq8 := by
  unfold qq8
  refine Goes.loop [.non, iL dr, iT (rep [0] dr.length), .tup (List.replicate dr.length (.bl true)), .str "1", .int 1] ?_ ?_
  · rintro ρ τ ⟨T, a, b, c, d, e, f, g, i, j, k, rfl⟩
    have e1 : gMul (.tup [.int 0]) (.int (dr.length : Int)) = some (iT (rep [0] dr.length)) := gMul_rep [0] dr.length (by simp) (by omega)
    have e2 := gMul_true dr.length (by omega)
    have e3 : gList [iT dr] = some (iL dr) := rfl
    simp only [fItA_r, f2_r, fN_r, fBor_r, fC_r, fSz_r, fCons_r, fVar_r, fNil_r, List.getElem?_cons_zero, List.getElem?_cons_succ, opt_some_r, bd_ok, e1, e2, e3, gLen_tup, List.length_map, List.length_cons, List.length_nil, SZ_eq, Nat.reduceAdd, Nat.reduceLeDiff, Nat.zero_le, if_true, items0_tup]
  · rintro x hx ρ τ ⟨T, a, b, c, d, e, f, g, i, j, k, rfl⟩
    refine ⟨_, bindD_name _ _ _, ?_⟩
    have run : m_is_loop [h.d, iT p, x] τ = .ok (.bl false) τ := by
      simp only [List.mem_cons, List.not_mem_nil, or_false] at hx
      rcases hx with rfl | rfl | rfl | rfl | rfl | rfl
      · exact loop_odd hh hp rfl τ
      · exact loop_odd hh hp rfl τ
      · rw [is_loop_run hh hp (by rw [rep_length]; simp; omega)]
        unfold Hand.isLoopB
        rw [rep_zero_fg h1]
        simp
      · exact loop_true hh hp (by omega) τ
      · exact loop_odd hh hp rfl τ
      · exact loop_odd hh hp rfl τ
    simp [run, law_is_run]
    exact ⟨T, _, _, _, _, _, _, _, _, _, _, rfl⟩
theorem ans_run {dr : List Int} : Goes (IL ns h p dr) (fSeq qq9 (fSeq qq10 (fSeq qq11 (fSeq qq12 qq13)))) := by
  rintro ρ τ ⟨T, a, b, c, d, e, f, g, i, j, k, rfl⟩
  unfold qq9 qq10 qq11 qq12 qq13
  simp [an1, an2 hh, an3, an4 hh, tagX, lstOf, an5]
  exact ⟨T, _, _, _, _, _, _, _, _, _, _, rfl⟩
theorem tail_run {x2 x5 x6 x7 x8 x9 xa xb xc xd xe xf : Sl} {τ : Tau} (T : Town ns 0 τ) :
    (tailB [.fz (.scr ns), .fz (.obj 0), x2, .fz h.d, .fz (iT p), x5, x6, x7, x8, x9, xa, xb, xc, xd, xe, xf] τ).sat fun o τ' => ∃ ρ, o = .next ρ ∧ Town ns 0 τ' ∧ ∃ a b c d e f g h i j k l m n, ρ = [.fz (.scr ns), .fz (.obj 0), a, b, c, d, e, f, g, h, i, j, k, l, m, n] := by
  unfold tailB
  rw [fSeq_r, qq1_run hn hh hp, bd_ok, seqK_next, fSeq_r, qq2_run hn hh hp, bd_ok, seqK_next, seq_asc qq3 qq4, fSeq_r, qq34_run hn hh hp, bd_ok, seqK_next, fSeq_r]
  refine sat_bd (sat_imp (qq5_run hn hh hp T) ?_)
  rintro _ τ0 ⟨N, rfl, T0, n1, n20⟩
  rw [seqK_next, fSeq_r]
  refine sat_bd (sat_imp (qq6_run hn hh hp n1 n20 T0) ?_)
  rintro _ τ1 ⟨ρ, dr, rfl, T1, hd, ⟨h1, h20⟩, E⟩
  rw [seqK_next]
  refine sat_imp (((qq7_run hn hh hp hd h20).seq ((qq8_run hn hh hp h1 h20).seq (ans_run hn hh hp))) ρ τ1 ⟨T1, E⟩) ?_
  rintro _ τ2 ⟨ρ', rfl, T2, a, b, c, d, e, f, g, i, j, k, rfl⟩
  exact ⟨_, rfl, T2, _, _, _, _, _, _, _, _, _, _, _, _, _, _, rfl⟩
end
theorem rng_5 : rng1 [.int 5] = some ((upto 5).map .int) := rng1_run 5 (by decide)
theorem law_true (ns : List Int) (hn : ns.length ≤ 63) : ∃ τ', m_law [.scr ns] [] = .ok (.bl true) τ' := by
  have main : (m_law [.scr ns] []).sat fun d _ => d = .bl true := by
    rw [law2]
    simp [B_law2, begun_run, rng_5]
    refine loop_sat0 D.int (fun ρ τ => Town ns 0 τ ∧ ∃ a b c d e f g h i j k l m n, ρ = [.fz (.scr ns), .fz (.obj 0), a, b, c, d, e, f, g, h, i, j, k, l, m, n]) (upto 5) ⟨town_begun ns [], _, _, _, _, _, _, _, _, _, _, _, _, _, _, rfl⟩ ?_ ?_
    · rintro a _ _ τ1 ⟨T1, x1, x2, x3, x4, x5, x6, x7, x8, x9, y1, y2, y3, y4, y5, rfl⟩
      refine ⟨_, bindD_name _ _ _, ?_⟩
      unfold qq0
      simp
      refine sat_bd (sat_imp (hand_run hn T1) ?_)
      rintro _ τ2 ⟨⟨h, hh, rfl⟩, T2⟩
      refine sat_bd (sat_imp (pattern_run hn T2 (by decide) (by decide)) ?_)
      rintro _ τ3 ⟨⟨p, hp, _, _, rfl⟩, T3⟩
      exact tail_run hn hh hp T3
    · rintro _ τ1 ⟨T1, x1, x2, x3, x4, x5, x6, x7, x8, x9, y1, y2, y3, y4, y5, rfl⟩
      simp
  obtain ⟨d, τ', e, h⟩ := sat_ex main
  exact ⟨τ', by rw [e, h]⟩
end KF
set_option maxHeartbeats 0
namespace KF
open PySem PySem.Spec PyProof.Rows L2
def topS (i : Nat) : Stmt := PySem.Challenge.pw_keyfingers_k17_loops.main.body.getD i (.Pass ⟨0, 0, 0, 0⟩)
def P_is_between (T : List (Addr × Str)) : Par := { N := ["value", "low", "high"], own := [], k := 0, fns := [], cst := [], exs := [], Φ := tabF [], nm := nmAll, T := T, kf := 0, dct := [], kw := [] }
theorem s_is_between : FnScope ["value", "low", "high"] ["value", "low", "high"] (defScope (topS 20)) := ⟨rfl, rfl, rfl, by decide +kernel, rfl, by decide +kernel, by decide +kernel⟩
theorem c_is_between (T : List (Addr × Str)) : (stepSs (recs (P_is_between T) 40) ⟨defScope (topS 20), fun _ => true, false, false⟩ (defBody (topS 20))).map (fun A => A.f) = some B_is_between := by kernel_rfl
def P_is_span (T : List (Addr × Str)) : Par := { N := ["pair", "value"], own := [], k := 1, fns := [("is_between", 0, ["value", "low", "high"])], cst := [], exs := [], Φ := tabF [(0, m_is_between)], nm := nmAll, T := T, kf := 1, dct := [], kw := [] }
theorem s_is_span : FnScope ["pair", "value"] ["pair", "value"] (defScope (topS 21)) := ⟨rfl, rfl, rfl, by decide +kernel, rfl, by decide +kernel, by decide +kernel⟩
theorem c_is_span (T : List (Addr × Str)) : (stepSs (recs (P_is_span T) 40) ⟨defScope (topS 21), fun _ => true, false, false⟩ (defBody (topS 21))).map (fun A => A.f) = some B_is_span := by kernel_rfl
def P_is_hand (T : List (Addr × Str)) : Par := { N := ["value", "pair", "span"], own := [], k := 2, fns := [("is_between", 0, ["value", "low", "high"]), ("is_span", 1, ["pair", "value"])], cst := [("PAIRS", c_PAIRS)], exs := [], Φ := tabF [(0, m_is_between), (1, m_is_span)], nm := nmAll, T := T, kf := 2, dct := [], kw := [] }
theorem s_is_hand : FnScope ["value", "pair", "span"] ["value"] (defScope (topS 22)) := ⟨rfl, rfl, rfl, by decide +kernel, rfl, by decide +kernel, by decide +kernel⟩
theorem c_is_hand (T : List (Addr × Str)) : (stepSs (recs (P_is_hand T) 40) ⟨defScope (topS 22), fun _ => true, false, false⟩ (defBody (topS 22))).map (fun A => A.f) = some B_is_hand := by kernel_rfl
def P_check_hand (T : List (Addr × Str)) : Par := { N := ["hand"], own := [], k := 3, fns := [("is_hand", 2, ["value"])], cst := [], exs := [.hand], Φ := tabF [(2, m_is_hand)], nm := nmAll, T := T, kf := 3, dct := [], kw := [] }
theorem s_check_hand : FnScope ["hand"] ["hand"] (defScope (topS 23)) := ⟨rfl, rfl, rfl, by decide +kernel, rfl, by decide +kernel, by decide +kernel⟩
theorem c_check_hand (T : List (Addr × Str)) : (stepSs (recs (P_check_hand T) 40) ⟨defScope (topS 23), fun _ => true, false, false⟩ (defBody (topS 23))).map (fun A => A.f) = some B_check_hand := by kernel_rfl
def P_does_step (T : List (Addr × Str)) : Par := { N := ["hand", "finger", "step", "other", "low", "high"], own := [], k := 0, fns := [], cst := [("PAIRS", c_PAIRS)], exs := [], Φ := tabF [], nm := nmAll, T := T, kf := 0, dct := [], kw := [] }
theorem s_does_step : FnScope ["hand", "finger", "step", "other", "low", "high"] ["hand", "finger", "step", "other"] (defScope (topS 24)) := ⟨rfl, rfl, rfl, by decide +kernel, rfl, by decide +kernel, by decide +kernel⟩
theorem c_does_step (T : List (Addr × Str)) : (stepSs (recs (P_does_step T) 40) ⟨defScope (topS 24), fun _ => true, false, false⟩ (defBody (topS 24))).map (fun A => A.f) = some B_does_step := by kernel_rfl
def P_after_step (T : List (Addr × Str)) : Par := { N := ["hand", "fingers", "step", "other", "finger"], own := [], k := 1, fns := [("does_step", 8, ["hand", "finger", "step", "other"])], cst := [("FINGERS", c_FINGERS)], exs := [], Φ := tabF [(8, m_does_step)], nm := nmAll, T := T, kf := 1, dct := [], kw := [] }
theorem s_after_step : FnScope ["hand", "fingers", "step", "other", "finger"] ["hand", "fingers", "step"] (defScope (topS 25)) := ⟨rfl, rfl, rfl, by decide +kernel, rfl, by decide +kernel, by decide +kernel⟩
theorem c_after_step (T : List (Addr × Str)) : (stepSs (recs (P_after_step T) 40) ⟨defScope (topS 25), fun _ => true, false, false⟩ (defBody (topS 25))).map (fun A => A.f) = some B_after_step := by kernel_rfl
def P_is_played (T : List (Addr × Str)) : Par := { N := ["hand", "steps", "fingers", "rows", "finger", "step", "other"], own := [], k := 1, fns := [("does_step", 8, ["hand", "finger", "step", "other"])], cst := [], exs := [], Φ := tabF [(8, m_does_step)], nm := nmAll, T := T, kf := 1, dct := [], kw := [] }
theorem s_is_played : FnScope ["hand", "steps", "fingers", "rows", "finger", "step", "other"] ["hand", "steps", "fingers"] (defScope (topS 27)) := ⟨rfl, rfl, rfl, by decide +kernel, rfl, by decide +kernel, by decide +kernel⟩
theorem c_is_played (T : List (Addr × Str)) : (stepSs (recs (P_is_played T) 40) ⟨defScope (topS 27), fun _ => true, false, false⟩ (defBody (topS 27))).map (fun A => A.f) = some B_is_played := by kernel_rfl
def P_is_pattern (T : List (Addr × Str)) : Par := { N := ["value", "step"], own := [], k := 1, fns := [("is_between", 0, ["value", "low", "high"])], cst := [], exs := [], Φ := tabF [(0, m_is_between)], nm := nmAll, T := T, kf := 1, dct := [], kw := [] }
theorem s_is_pattern : FnScope ["value", "step"] ["value"] (defScope (topS 29)) := ⟨rfl, rfl, rfl, by decide +kernel, rfl, by decide +kernel, by decide +kernel⟩
theorem c_is_pattern (T : List (Addr × Str)) : (stepSs (recs (P_is_pattern T) 40) ⟨defScope (topS 29), fun _ => true, false, false⟩ (defBody (topS 29))).map (fun A => A.f) = some B_is_pattern := by kernel_rfl
def P_check_pattern (T : List (Addr × Str)) : Par := { N := ["hand", "pattern"], own := [], k := 4, fns := [("check_hand", 3, ["hand"]), ("is_pattern", 59, ["value"])], cst := [], exs := [.pattern], Φ := tabF [(3, m_check_hand), (59, m_is_pattern)], nm := nmAll, T := T, kf := 4, dct := [], kw := [] }
theorem s_check_pattern : FnScope ["hand", "pattern"] ["hand", "pattern"] (defScope (topS 30)) := ⟨rfl, rfl, rfl, by decide +kernel, rfl, by decide +kernel, by decide +kernel⟩
theorem c_check_pattern (T : List (Addr × Str)) : (stepSs (recs (P_check_pattern T) 40) ⟨defScope (topS 30), fun _ => true, false, false⟩ (defBody (topS 30))).map (fun A => A.f) = some B_check_pattern := by kernel_rfl
def P_sets_back_to (T : List (Addr × Str)) : Par := { N := ["hand", "steps", "finger", "found", "step"], own := [3], k := 2, fns := [("after_step", 9, ["hand", "fingers", "step"])], cst := [], exs := [], Φ := tabF [(9, m_after_step)], nm := nmAll, T := T, kf := 2, dct := [], kw := [] }
theorem s_sets_back_to : FnScope ["hand", "steps", "finger", "found", "step"] ["hand", "steps", "finger"] (defScope (topS 31)) := ⟨rfl, rfl, rfl, by decide +kernel, rfl, by decide +kernel, by decide +kernel⟩
theorem c_sets_back_to (T : List (Addr × Str)) : (stepSs (recs (P_sets_back_to T) 40) ⟨defScope (topS 31), fun _ => true, false, false⟩ (defBody (topS 31))).map (fun A => A.f) = some B_sets_back_to := by kernel_rfl
def P_closed_of (T : List (Addr × Str)) : Par := { N := ["hand", "steps", "finger", "found", "back", "at", "step", "some", "other"], own := [], k := 3, fns := [("sets_back_to", 67, ["hand", "steps", "finger"]), ("after_step", 9, ["hand", "fingers", "step"])], cst := [("FINGERS", c_FINGERS)], exs := [], Φ := tabF [(67, m_sets_back_to), (9, m_after_step)], nm := nmAll, T := T, kf := 3, dct := [], kw := [] }
theorem s_closed_of : FnScope ["hand", "steps", "finger", "found", "back", "at", "step", "some", "other"] ["hand", "steps"] (defScope (topS 32)) := ⟨rfl, rfl, rfl, by decide +kernel, rfl, by decide +kernel, by decide +kernel⟩
theorem c_closed_of (T : List (Addr × Str)) : (stepSs (recs (P_closed_of T) 40) ⟨defScope (topS 32), fun _ => true, false, false⟩ (defBody (topS 32))).map (fun A => A.f) = some B_closed_of := by kernel_rfl
def P_loop (T : List (Addr × Str)) : Par := { N := ["hand", "pattern", "many", "found"], own := [], k := 5, fns := [("check_pattern", 60, ["hand", "pattern"]), ("closed_of", 68, ["hand", "steps"])], cst := [], exs := [], Φ := tabF [(60, m_check_pattern), (68, m_closed_of)], nm := nmAll, T := T, kf := 5, dct := [], kw := [] }
theorem s_loop : FnScope ["hand", "pattern", "many", "found"] ["hand", "pattern"] (defScope (topS 33)) := ⟨rfl, rfl, rfl, by decide +kernel, rfl, by decide +kernel, by decide +kernel⟩
theorem c_loop (T : List (Addr × Str)) : (stepSs (recs (P_loop T) 40) ⟨defScope (topS 33), fun _ => true, false, false⟩ (defBody (topS 33))).map (fun A => A.f) = some B_loop := by kernel_rfl
def P_is_loop (T : List (Addr × Str)) : Par := { N := ["hand", "pattern", "value", "one"], own := [], k := 5, fns := [("check_pattern", 60, ["hand", "pattern"]), ("is_between", 0, ["value", "low", "high"]), ("is_played", 29, ["hand", "steps", "fingers"])], cst := [], exs := [], Φ := tabF [(60, m_check_pattern), (0, m_is_between), (29, m_is_played)], nm := nmAll, T := T, kf := 5, dct := [], kw := [] }
theorem s_is_loop : FnScope ["hand", "pattern", "value", "one"] ["hand", "pattern", "value"] (defScope (topS 34)) := ⟨rfl, rfl, rfl, by decide +kernel, rfl, by decide +kernel, by decide +kernel⟩
theorem c_is_loop (T : List (Addr × Str)) : (stepSs (recs (P_is_loop T) 40) ⟨defScope (topS 34), fun _ => true, false, false⟩ (defBody (topS 34))).map (fun A => A.f) = some B_is_loop := by kernel_rfl
def P__law_result (kf : Nat) (T : List (Addr × Str)) : Par := { N := ["call", "raised", "answer", "e", "some", "names", "name"], own := [], k := kf + 1, fns := [], cst := [], exs := [], Φ := tabF [], nm := nmAll, T := T, kf := 0, dct := [4], kw := [] }
theorem s__law_result : FnScope ["call", "raised", "answer", "e", "some", "names", "name"] ["call"] (defScope (topS 36)) := ⟨rfl, rfl, rfl, by decide +kernel, rfl, by decide +kernel, by decide +kernel⟩
theorem cut__law_result : resCut (defScope (topS 36)) (defBody (topS 36)) = some ((defBody (topS 36)).drop 2) := by kernel_rfl
theorem c__law_result (kf : Nat) (T : List (Addr × Str)) : (stepSs (recs (P__law_result kf T) 40) ⟨defScope (topS 36), fun _ => true, false, true⟩ ((defBody (topS 36)).drop 2)).map (fun A => A.f) = some B__law_result := by kernel_rfl
def P__law_is (T : List (Addr × Str)) : Par := { N := ["found", "expected"], own := [], k := 0, fns := [], cst := [], exs := [], Φ := tabF [], nm := nmAll, T := T, kf := 0, dct := [], kw := [] }
theorem s__law_is : FnScope ["found", "expected"] ["found", "expected"] (defScope (topS 37)) := ⟨rfl, rfl, rfl, by decide +kernel, rfl, by decide +kernel, by decide +kernel⟩
theorem c__law_is (T : List (Addr × Str)) : (stepSs (recs (P__law_is T) 40) ⟨defScope (topS 37), fun _ => true, false, false⟩ (defBody (topS 37))).map (fun A => A.f) = some B__law_is := by kernel_rfl
def P__law_draw (T : List (Addr × Str)) : Par := { N := ["script", "town", "many", "at", "rest", "number"], own := [], k := 0, fns := [], cst := [], exs := [], Φ := tabF [], nm := nmAll, T := T, kf := 0, dct := [], kw := [] }
theorem s__law_draw : FnScope ["script", "town", "many", "at", "rest", "number"] ["script", "town", "many"] (defScope (topS 38)) := ⟨rfl, rfl, rfl, by decide +kernel, rfl, by decide +kernel, by decide +kernel⟩
theorem c__law_draw (T : List (Addr × Str)) : (stepSs (recs (P__law_draw T) 40) ⟨defScope (topS 38), fun _ => true, false, false⟩ (defBody (topS 38))).map (fun A => A.f) = some B__law_draw := by kernel_rfl
def P__law_begun (T : List (Addr × Str)) : Par := { N := [], own := [], k := 0, fns := [], cst := [], exs := [], Φ := tabF [], nm := nmAll, T := T, kf := 0, dct := [], kw := [] }
theorem s__law_begun : FnScope [] [] (defScope (topS 39)) := ⟨rfl, rfl, rfl, by decide +kernel, rfl, by decide +kernel, by decide +kernel⟩
theorem c__law_begun (T : List (Addr × Str)) : (stepSs (recs (P__law_begun T) 40) ⟨defScope (topS 39), fun _ => true, false, false⟩ (defBody (topS 39))).map (fun A => A.f) = some B__law_begun := by kernel_rfl
def P__law_hand (T : List (Addr × Str)) : Par := { N := ["script", "town", "found", "one", "two", "high", "low"], own := [2], k := 1, fns := [("_law_draw", 15, ["script", "town", "many"])], cst := [], exs := [], Φ := tabF [(15, m__law_draw)], nm := nmAll, T := T, kf := 1, dct := [], kw := [] }
theorem s__law_hand : FnScope ["script", "town", "found", "one", "two", "high", "low"] ["script", "town"] (defScope (topS 40)) := ⟨rfl, rfl, rfl, by decide +kernel, rfl, by decide +kernel, by decide +kernel⟩
theorem c__law_hand (T : List (Addr × Str)) : (stepSs (recs (P__law_hand T) 40) ⟨defScope (topS 40), fun _ => true, false, false⟩ (defBody (topS 40))).map (fun A => A.f) = some B__law_hand := by kernel_rfl
def P__law_pattern (T : List (Addr × Str)) : Par := { N := ["script", "town", "most", "j"], own := [], k := 1, fns := [("_law_draw", 15, ["script", "town", "many"])], cst := [], exs := [], Φ := tabF [(15, m__law_draw)], nm := nmAll, T := T, kf := 1, dct := [], kw := [] }
theorem s__law_pattern : FnScope ["script", "town", "most", "j"] ["script", "town", "most"] (defScope (topS 41)) := ⟨rfl, rfl, rfl, by decide +kernel, rfl, by decide +kernel, by decide +kernel⟩
theorem c__law_pattern (T : List (Addr × Str)) : (stepSs (recs (P__law_pattern T) 40) ⟨defScope (topS 41), fun _ => true, false, false⟩ (defBody (topS 41))).map (fun A => A.f) = some B__law_pattern := by kernel_rfl
def P__law_does (T : List (Addr × Str)) : Par := { N := ["some", "finger", "by", "other", "one", "two", "place", "first", "second", "low", "high", "apart"], own := [], k := 0, fns := [], cst := [], exs := [], Φ := tabF [], nm := nmAll, T := T, kf := 0, dct := [], kw := [] }
theorem s__law_does : FnScope ["some", "finger", "by", "other", "one", "two", "place", "first", "second", "low", "high", "apart"] ["some", "finger", "by", "other"] (defScope (topS 42)) := ⟨rfl, rfl, rfl, by decide +kernel, rfl, by decide +kernel, by decide +kernel⟩
theorem c__law_does (T : List (Addr × Str)) : (stepSs (recs (P__law_does T) 40) ⟨defScope (topS 42), fun _ => true, false, false⟩ (defBody (topS 42))).map (fun A => A.f) = some B__law_does := by kernel_rfl
def P__law_after (T : List (Addr × Str)) : Par := { N := ["some", "fingers", "by", "found", "other", "finger"], own := [3], k := 1, fns := [("_law_does", 22, ["some", "finger", "by", "other"])], cst := [], exs := [], Φ := tabF [(22, m__law_does)], nm := nmAll, T := T, kf := 1, dct := [], kw := [] }
theorem s__law_after : FnScope ["some", "fingers", "by", "found", "other", "finger"] ["some", "fingers", "by"] (defScope (topS 43)) := ⟨rfl, rfl, rfl, by decide +kernel, rfl, by decide +kernel, by decide +kernel⟩
theorem c__law_after (T : List (Addr × Str)) : (stepSs (recs (P__law_after T) 40) ⟨defScope (topS 43), fun _ => true, false, false⟩ (defBody (topS 43))).map (fun A => A.f) = some B__law_after := by kernel_rfl
def P__law_closed (T : List (Addr × Str)) : Par := { N := ["some", "steps", "row", "at"], own := [], k := 1, fns := [("_law_does", 22, ["some", "finger", "by", "other"])], cst := [], exs := [], Φ := tabF [(22, m__law_does)], nm := nmAll, T := T, kf := 1, dct := [], kw := [] }
theorem s__law_closed : FnScope ["some", "steps", "row", "at"] ["some", "steps", "row"] (defScope (topS 44)) := ⟨rfl, rfl, rfl, by decide +kernel, rfl, by decide +kernel, by decide +kernel⟩
theorem c__law_closed (T : List (Addr × Str)) : (stepSs (recs (P__law_closed T) 40) ⟨defScope (topS 44), fun _ => true, false, false⟩ (defBody (topS 44))).map (fun A => A.f) = some B__law_closed := by kernel_rfl
def P__law_first (T : List (Addr × Str)) : Par := { N := ["some", "steps", "many", "begin", "rows", "by", "longer", "row", "other", "good"], own := [], k := 2, fns := [("_law_after", 23, ["some", "fingers", "by"])], cst := [], exs := [], Φ := tabF [(23, m__law_after)], nm := nmAll, T := T, kf := 2, dct := [6], kw := [] }
theorem s__law_first : FnScope ["some", "steps", "many", "begin", "rows", "by", "longer", "row", "other", "good"] ["some", "steps", "many"] (defScope (topS 45)) := ⟨rfl, rfl, rfl, by decide +kernel, rfl, by decide +kernel, by decide +kernel⟩
theorem c__law_first (T : List (Addr × Str)) : (stepSs (recs (P__law_first T) 40) ⟨defScope (topS 45), fun _ => true, false, false⟩ (defBody (topS 45))).map (fun A => A.f) = some B__law_first := by kernel_rfl
def P_law (T : List (Addr × Str)) : Par := { N := ["script", "town", "k", "hand_here", "pattern_here", "rows", "good", "found", "many", "drawn", "value_here", "due", "odd", "answers", "row", "j"], own := [13], k := 8, fns := [("_law_begun", 16, []), ("_law_pattern", 70, ["script", "town", "most"]), ("_law_hand", 17, ["script", "town"]), ("_law_first", 75, ["some", "steps", "many"]), ("loop", 69, ["hand", "pattern"]), ("_law_draw", 15, ["script", "town", "many"]), ("_law_closed", 74, ["some", "steps", "row"]), ("_law_is", 14, ["found", "expected"]), ("is_loop", 73, ["hand", "pattern", "value"])], cst := [], exs := [], Φ := tabF [(16, m__law_begun), (70, m__law_pattern), (17, m__law_hand), (75, m__law_first), (69, m_loop), (15, m__law_draw), (74, m__law_closed), (14, m__law_is), (73, m_is_loop)], nm := nmAll, T := T, kf := 6, dct := [], kw := [("loop", 0), ("is_loop", 2)] }
theorem s_law : FnScope ["script", "town", "k", "hand_here", "pattern_here", "rows", "good", "found", "many", "drawn", "value_here", "due", "odd", "answers", "row", "j"] ["script"] (defScope (topS 46)) := ⟨rfl, rfl, rfl, by decide +kernel, rfl, by decide +kernel, by decide +kernel⟩
theorem c_law (T : List (Addr × Str)) : (stepSs (recs (P_law T) 40) ⟨defScope (topS 46), fun _ => true, true, false⟩ (defBody (topS 46))).map (fun A => A.f) = some B_law := by kernel_rfl
abbrev FnP (K : PySem.W.Frag) (x : Str) (st : Stmt) (f : Addr) (fd : FuncData) : Prop := FunD K x x (defArgs st) (defBody st) (defScope st) [] [] f fd
def d_is_between : He.DefD := ⟨("is_between", none), "is_between", "is_between", defArgs (topS 20), defBody (topS 20), defScope (topS 20), [], []⟩
def d_is_span : He.DefD := ⟨("is_span", none), "is_span", "is_span", defArgs (topS 21), defBody (topS 21), defScope (topS 21), [], []⟩
def d_is_hand : He.DefD := ⟨("is_hand", none), "is_hand", "is_hand", defArgs (topS 22), defBody (topS 22), defScope (topS 22), [], []⟩
def d_check_hand : He.DefD := ⟨("check_hand", none), "check_hand", "check_hand", defArgs (topS 23), defBody (topS 23), defScope (topS 23), [], []⟩
def d_does_step : He.DefD := ⟨("does_step", none), "does_step", "does_step", defArgs (topS 24), defBody (topS 24), defScope (topS 24), [], []⟩
def d_after_step : He.DefD := ⟨("after_step", none), "after_step", "after_step", defArgs (topS 25), defBody (topS 25), defScope (topS 25), [], []⟩
def d_is_played : He.DefD := ⟨("is_played", none), "is_played", "is_played", defArgs (topS 27), defBody (topS 27), defScope (topS 27), [], []⟩
def d_is_pattern : He.DefD := ⟨("is_pattern", none), "is_pattern", "is_pattern", defArgs (topS 29), defBody (topS 29), defScope (topS 29), [], []⟩
def d_check_pattern : He.DefD := ⟨("check_pattern", none), "check_pattern", "check_pattern", defArgs (topS 30), defBody (topS 30), defScope (topS 30), [], []⟩
def d_sets_back_to : He.DefD := ⟨("sets_back_to", none), "sets_back_to", "sets_back_to", defArgs (topS 31), defBody (topS 31), defScope (topS 31), [], []⟩
def d_closed_of : He.DefD := ⟨("closed_of", none), "closed_of", "closed_of", defArgs (topS 32), defBody (topS 32), defScope (topS 32), [], []⟩
def d_loop : He.DefD := ⟨("loop", none), "loop", "loop", defArgs (topS 33), defBody (topS 33), defScope (topS 33), [], []⟩
def d_is_loop : He.DefD := ⟨("is_loop", none), "is_loop", "is_loop", defArgs (topS 34), defBody (topS 34), defScope (topS 34), [], []⟩
def d__law_result : He.DefD := ⟨("_law_result", none), "_law_result", "_law_result", defArgs (topS 36), defBody (topS 36), defScope (topS 36), [], []⟩
def d__law_is : He.DefD := ⟨("_law_is", none), "_law_is", "_law_is", defArgs (topS 37), defBody (topS 37), defScope (topS 37), [], []⟩
def d__law_draw : He.DefD := ⟨("_law_draw", none), "_law_draw", "_law_draw", defArgs (topS 38), defBody (topS 38), defScope (topS 38), [], []⟩
def d__law_begun : He.DefD := ⟨("_law_begun", none), "_law_begun", "_law_begun", defArgs (topS 39), defBody (topS 39), defScope (topS 39), [], []⟩
def d__law_hand : He.DefD := ⟨("_law_hand", none), "_law_hand", "_law_hand", defArgs (topS 40), defBody (topS 40), defScope (topS 40), [], []⟩
def d__law_pattern : He.DefD := ⟨("_law_pattern", none), "_law_pattern", "_law_pattern", defArgs (topS 41), defBody (topS 41), defScope (topS 41), [], []⟩
def d__law_does : He.DefD := ⟨("_law_does", none), "_law_does", "_law_does", defArgs (topS 42), defBody (topS 42), defScope (topS 42), [], []⟩
def d__law_after : He.DefD := ⟨("_law_after", none), "_law_after", "_law_after", defArgs (topS 43), defBody (topS 43), defScope (topS 43), [], []⟩
def d__law_closed : He.DefD := ⟨("_law_closed", none), "_law_closed", "_law_closed", defArgs (topS 44), defBody (topS 44), defScope (topS 44), [], []⟩
def d__law_first : He.DefD := ⟨("_law_first", none), "_law_first", "_law_first", defArgs (topS 45), defBody (topS 45), defScope (topS 45), [], []⟩
def d_law : He.DefD := ⟨("law", none), "law", "law", defArgs (topS 46), defBody (topS 46), defScope (topS 46), [], []⟩
def hfn : List He.DefD := [d_is_between, d_is_span, d_is_hand, d_check_hand, d_does_step, d_after_step, d_is_played, d_is_pattern, d_check_pattern, d_sets_back_to, d_closed_of, d_loop, d_is_loop, d__law_result, d__law_is, d__law_draw, d__law_begun, d__law_hand, d__law_pattern, d__law_does, d__law_after, d__law_closed, d__law_first, d_law]
def hfa0 : List He.Fa := [.glo "is_between", .glo "is_span", .glo "is_hand", .glo "check_hand", .glo "does_step", .glo "after_step", .glo "is_played", .glo "is_pattern", .glo "check_pattern", .glo "sets_back_to", .glo "closed_of", .glo "loop", .glo "is_loop", .glo "_law_result", .glo "_law_is", .glo "_law_draw", .glo "_law_begun", .glo "_law_hand", .glo "_law_pattern", .glo "_law_does", .glo "_law_after", .glo "_law_closed", .glo "_law_first", .glo "law", .free "len", .free "abs", .free "min", .free "max", .free "any", .free "all"]
def hfa1 : List He.Fa := [.free "sum", .free "list", .free "tuple", .free "isinstance", .free "int", .free "bool", .free "str", .free "sorted", .free "set", .free "range", .free "zip", .free "enumerate", .free "dict", .free "ValueError", .glo "InvalidHand", .glo "InvalidPattern", .exc "InvalidHand", .exc "InvalidPattern"]
def hfa : List He.Fa := hfa0 ++ hfa1
def hcs : List (Str × D) := [("PAIRS", c_PAIRS), ("FINGERS", c_FINGERS)]
def loose0 : List PySem.Str := ["FingerError", "InvalidHand", "InvalidPassage", "InvalidFinger", "InvalidStep", "InvalidPlace", "InvalidFingering", "InvalidKeys", "InvalidPattern", "InvalidTimes", "InvalidNote", "InvalidText", "TooLong", "CannotPlay", "NothingPlayed", "NothingToUndo", "FINGERS", "PAIRS", "is_between", "is_span", "is_hand", "check_hand", "does_step", "after_step", "is_played", "is_pattern", "check_pattern", "sets_back_to", "closed_of", "loop"]
def loose1 : List PySem.Str := ["is_loop", "_law_result", "_law_is", "_law_draw", "_law_begun", "_law_hand", "_law_pattern", "_law_does", "_law_after", "_law_closed", "_law_first"]
def looseN : List PySem.Str := loose0 ++ loose1
def hdn : He.Defn := ("law", none)
def hex' (K : PySem.W.Frag) : Bool := (hcs.all fun p => cstB K p.1 p.2) && xkB K
def hT (K : PySem.W.Frag) : List (Addr × Str) := [((He.cT K hdn).2, (envOfC "law" (defScope (topS 46)) 0 0 .none).qual ++ "<lambda>")]
abbrev hR : PySem.W.OpenRow := PySem.W.OpenLaw.row PySem.Challenge.rw_keyfingers_k17_loops
abbrev hk : PySem.W.Hook := He.hookX 4 hfa hfn [] [hdn] hex'
def hob (s : PySem.W.SharedT) : He.AlX := He.obsX 4 hfa hfn [] [hdn] hex' (HandSHeadRun.getT s)
theorem hob_eq (s : PySem.W.SharedT) : hob s = hk.obs s.abs := He.obsX_eq (HandSHeadRun.getT_eq s)
theorem hrun (w : World) : HandSHeadRun.RunEq hR (PySem.W.view hR.prog [46]) hk hob 40000 looseN w := by
  intro os
  kernel_rfl
theorem hfacts {PR : Program} {w : World} {K : PySem.W.Frag} {h : Heap} {mg : Str → Option Value} {f : Addr} (X : K.In h) (G : h.Ns mainGlobals mg) (hlaw : mg ("law" : Str) = some (.ref f)) (c : He.SaysX hfa hfn [] [hdn] hex' w h K) :
    ∃ fd : FuncData, (∀ (s : Shared) (v : Value), BindsTo s fd ⟨[v], []⟩ [("script", v)]) ∧ ∀ base : Heap, K.In base → base.Ns mainGlobals mg → (∀ p ∈ [He.cT K hdn], LamX.TabB base mg p.1 p.2) → FnOk PR w K mg base (L2.CX PR w) 9 f fd ["script"] (SpOf ⟨K, mg, nmAll, hT K, w⟩ m_law 1) := by
  have cd := c.t.d
  have cm : (hcs.all fun p => cstB K p.1 p.2) = true ∧ xkB K = true := by
    have q := c.more
    unfold hex' at q
    rwa [Bool.and_eq_true] at q
  obtain ⟨xk, mF, hF⟩ := xkB_ok X G cm.2
  obtain ⟨fd_is_between, F_is_between⟩ := cd.def_ 0 (d := d_is_between) rfl
  have g_is_between := He.glo_ok X G (cd.fact 0 (f := .glo "is_between") rfl)
  have b_is_between := FunD.bindsN (ps := ["value", "low", "high"]) F_is_between fun _ _ _ _ _ _ us hl => match us, hl with | [_, _, _], _ => rfl
  obtain ⟨fd_is_span, F_is_span⟩ := cd.def_ 1 (d := d_is_span) rfl
  have g_is_span := He.glo_ok X G (cd.fact 1 (f := .glo "is_span") rfl)
  have b_is_span := FunD.bindsN (ps := ["pair", "value"]) F_is_span fun _ _ _ _ _ _ us hl => match us, hl with | [_, _], _ => rfl
  obtain ⟨fd_is_hand, F_is_hand⟩ := cd.def_ 2 (d := d_is_hand) rfl
  have g_is_hand := He.glo_ok X G (cd.fact 2 (f := .glo "is_hand") rfl)
  have b_is_hand := FunD.bindsN (ps := ["value"]) F_is_hand fun _ _ _ _ _ _ us hl => match us, hl with | [_], _ => rfl
  obtain ⟨fd_check_hand, F_check_hand⟩ := cd.def_ 3 (d := d_check_hand) rfl
  have g_check_hand := He.glo_ok X G (cd.fact 3 (f := .glo "check_hand") rfl)
  have b_check_hand := FunD.bindsN (ps := ["hand"]) F_check_hand fun _ _ _ _ _ _ us hl => match us, hl with | [_], _ => rfl
  obtain ⟨fd_does_step, F_does_step⟩ := cd.def_ 4 (d := d_does_step) rfl
  have g_does_step := He.glo_ok X G (cd.fact 4 (f := .glo "does_step") rfl)
  have b_does_step := FunD.bindsN (ps := ["hand", "finger", "step", "other"]) F_does_step fun _ _ _ _ _ _ us hl => match us, hl with | [_, _, _, _], _ => rfl
  obtain ⟨fd_after_step, F_after_step⟩ := cd.def_ 5 (d := d_after_step) rfl
  have g_after_step := He.glo_ok X G (cd.fact 5 (f := .glo "after_step") rfl)
  have b_after_step := FunD.bindsN (ps := ["hand", "fingers", "step"]) F_after_step fun _ _ _ _ _ _ us hl => match us, hl with | [_, _, _], _ => rfl
  obtain ⟨fd_is_played, F_is_played⟩ := cd.def_ 6 (d := d_is_played) rfl
  have g_is_played := He.glo_ok X G (cd.fact 6 (f := .glo "is_played") rfl)
  have b_is_played := FunD.bindsN (ps := ["hand", "steps", "fingers"]) F_is_played fun _ _ _ _ _ _ us hl => match us, hl with | [_, _, _], _ => rfl
  obtain ⟨fd_is_pattern, F_is_pattern⟩ := cd.def_ 7 (d := d_is_pattern) rfl
  have g_is_pattern := He.glo_ok X G (cd.fact 7 (f := .glo "is_pattern") rfl)
  have b_is_pattern := FunD.bindsN (ps := ["value"]) F_is_pattern fun _ _ _ _ _ _ us hl => match us, hl with | [_], _ => rfl
  obtain ⟨fd_check_pattern, F_check_pattern⟩ := cd.def_ 8 (d := d_check_pattern) rfl
  have g_check_pattern := He.glo_ok X G (cd.fact 8 (f := .glo "check_pattern") rfl)
  have b_check_pattern := FunD.bindsN (ps := ["hand", "pattern"]) F_check_pattern fun _ _ _ _ _ _ us hl => match us, hl with | [_, _], _ => rfl
  obtain ⟨fd_sets_back_to, F_sets_back_to⟩ := cd.def_ 9 (d := d_sets_back_to) rfl
  have g_sets_back_to := He.glo_ok X G (cd.fact 9 (f := .glo "sets_back_to") rfl)
  have b_sets_back_to := FunD.bindsN (ps := ["hand", "steps", "finger"]) F_sets_back_to fun _ _ _ _ _ _ us hl => match us, hl with | [_, _, _], _ => rfl
  obtain ⟨fd_closed_of, F_closed_of⟩ := cd.def_ 10 (d := d_closed_of) rfl
  have g_closed_of := He.glo_ok X G (cd.fact 10 (f := .glo "closed_of") rfl)
  have b_closed_of := FunD.bindsN (ps := ["hand", "steps"]) F_closed_of fun _ _ _ _ _ _ us hl => match us, hl with | [_, _], _ => rfl
  obtain ⟨fd_loop, F_loop⟩ := cd.def_ 11 (d := d_loop) rfl
  have g_loop := He.glo_ok X G (cd.fact 11 (f := .glo "loop") rfl)
  have b_loop := FunD.bindsN (ps := ["hand", "pattern"]) F_loop fun _ _ _ _ _ _ us hl => match us, hl with | [_, _], _ => rfl
  obtain ⟨fd_is_loop, F_is_loop⟩ := cd.def_ 12 (d := d_is_loop) rfl
  have g_is_loop := He.glo_ok X G (cd.fact 12 (f := .glo "is_loop") rfl)
  have b_is_loop := FunD.bindsN (ps := ["hand", "pattern", "value"]) F_is_loop fun _ _ _ _ _ _ us hl => match us, hl with | [_, _, _], _ => rfl
  obtain ⟨fd__law_result, F__law_result⟩ := cd.def_ 13 (d := d__law_result) rfl
  have g__law_result := He.glo_ok X G (cd.fact 13 (f := .glo "_law_result") rfl)
  have b__law_result := FunD.bindsN (ps := ["call"]) F__law_result fun _ _ _ _ _ _ us hl => match us, hl with | [_], _ => rfl
  obtain ⟨fd__law_is, F__law_is⟩ := cd.def_ 14 (d := d__law_is) rfl
  have g__law_is := He.glo_ok X G (cd.fact 14 (f := .glo "_law_is") rfl)
  have b__law_is := FunD.bindsN (ps := ["found", "expected"]) F__law_is fun _ _ _ _ _ _ us hl => match us, hl with | [_, _], _ => rfl
  obtain ⟨fd__law_draw, F__law_draw⟩ := cd.def_ 15 (d := d__law_draw) rfl
  have g__law_draw := He.glo_ok X G (cd.fact 15 (f := .glo "_law_draw") rfl)
  have b__law_draw := FunD.bindsN (ps := ["script", "town", "many"]) F__law_draw fun _ _ _ _ _ _ us hl => match us, hl with | [_, _, _], _ => rfl
  obtain ⟨fd__law_begun, F__law_begun⟩ := cd.def_ 16 (d := d__law_begun) rfl
  have g__law_begun := He.glo_ok X G (cd.fact 16 (f := .glo "_law_begun") rfl)
  have b__law_begun := FunD.bindsN (ps := []) F__law_begun fun _ _ _ _ _ _ us hl => match us, hl with | [], _ => rfl
  obtain ⟨fd__law_hand, F__law_hand⟩ := cd.def_ 17 (d := d__law_hand) rfl
  have g__law_hand := He.glo_ok X G (cd.fact 17 (f := .glo "_law_hand") rfl)
  have b__law_hand := FunD.bindsN (ps := ["script", "town"]) F__law_hand fun _ _ _ _ _ _ us hl => match us, hl with | [_, _], _ => rfl
  obtain ⟨fd__law_pattern, F__law_pattern⟩ := cd.def_ 18 (d := d__law_pattern) rfl
  have g__law_pattern := He.glo_ok X G (cd.fact 18 (f := .glo "_law_pattern") rfl)
  have b__law_pattern := FunD.bindsN (ps := ["script", "town", "most"]) F__law_pattern fun _ _ _ _ _ _ us hl => match us, hl with | [_, _, _], _ => rfl
  obtain ⟨fd__law_does, F__law_does⟩ := cd.def_ 19 (d := d__law_does) rfl
  have g__law_does := He.glo_ok X G (cd.fact 19 (f := .glo "_law_does") rfl)
  have b__law_does := FunD.bindsN (ps := ["some", "finger", "by", "other"]) F__law_does fun _ _ _ _ _ _ us hl => match us, hl with | [_, _, _, _], _ => rfl
  obtain ⟨fd__law_after, F__law_after⟩ := cd.def_ 20 (d := d__law_after) rfl
  have g__law_after := He.glo_ok X G (cd.fact 20 (f := .glo "_law_after") rfl)
  have b__law_after := FunD.bindsN (ps := ["some", "fingers", "by"]) F__law_after fun _ _ _ _ _ _ us hl => match us, hl with | [_, _, _], _ => rfl
  obtain ⟨fd__law_closed, F__law_closed⟩ := cd.def_ 21 (d := d__law_closed) rfl
  have g__law_closed := He.glo_ok X G (cd.fact 21 (f := .glo "_law_closed") rfl)
  have b__law_closed := FunD.bindsN (ps := ["some", "steps", "row"]) F__law_closed fun _ _ _ _ _ _ us hl => match us, hl with | [_, _, _], _ => rfl
  obtain ⟨fd__law_first, F__law_first⟩ := cd.def_ 22 (d := d__law_first) rfl
  have g__law_first := He.glo_ok X G (cd.fact 22 (f := .glo "_law_first") rfl)
  have b__law_first := FunD.bindsN (ps := ["some", "steps", "many"]) F__law_first fun _ _ _ _ _ _ us hl => match us, hl with | [_, _, _], _ => rfl
  obtain ⟨fd_law, F_law⟩ := cd.def_ 23 (d := d_law) rfl
  have g_law := He.glo_ok X G (cd.fact 23 (f := .glo "law") rfl)
  have binds_law := FunD.bindsA (ps := ["script"]) F_law fun _ _ _ _ _ _ us hl => match us, hl with | [_], _ => rfl
  have kb_loop_0 : KBn K fd_loop ["hand", "pattern"] 0 ["hand", "pattern"] (fun us ws => us ++ ws) (fun us ws => us ++ ws) := kb_of F_loop fun _ _ _ _ _ _ us ws h1 h2 => match us, ws, h1, h2 with | [], [_, _], _, _ => rfl
  have kb_is_loop_2 : KBn K fd_is_loop ["hand", "pattern", "value"] 2 ["value"] (fun us ws => us ++ ws) (fun us ws => us ++ ws) := kb_of F_is_loop fun _ _ _ _ _ _ us ws h1 h2 => match us, ws, h1, h2 with | [_, _], [_], _, _ => rfl
  have blt : ∀ x ∈ blts, mg x = none := all_cons (He.free_ok X G (cd.fact 24 (f := .free "len") rfl)) (all_cons (He.free_ok X G (cd.fact 25 (f := .free "abs") rfl)) (all_cons (He.free_ok X G (cd.fact 26 (f := .free "min") rfl)) (all_cons (He.free_ok X G (cd.fact 27 (f := .free "max") rfl)) (all_cons (He.free_ok X G (cd.fact 28 (f := .free "any") rfl)) (all_cons (He.free_ok X G (cd.fact 29 (f := .free "all") rfl)) (all_cons (He.free_ok X G (cd.fact 30 (f := .free "sum") rfl)) (all_cons (He.free_ok X G (cd.fact 31 (f := .free "list") rfl)) (all_cons (He.free_ok X G (cd.fact 32 (f := .free "tuple") rfl)) (all_cons (He.free_ok X G (cd.fact 33 (f := .free "isinstance") rfl)) (all_cons (He.free_ok X G (cd.fact 34 (f := .free "int") rfl)) (all_cons (He.free_ok X G (cd.fact 35 (f := .free "bool") rfl)) (all_cons (He.free_ok X G (cd.fact 36 (f := .free "str") rfl)) (all_cons (He.free_ok X G (cd.fact 37 (f := .free "sorted") rfl)) (all_cons (He.free_ok X G (cd.fact 38 (f := .free "set") rfl)) (all_cons (He.free_ok X G (cd.fact 39 (f := .free "range") rfl)) (all_cons (He.free_ok X G (cd.fact 40 (f := .free "zip") rfl)) (all_cons (He.free_ok X G (cd.fact 41 (f := .free "enumerate") rfl)) (all_cons (He.free_ok X G (cd.fact 42 (f := .free "dict") rfl)) (all_cons (He.free_ok X G (cd.fact 43 (f := .free "ValueError") rfl)) (all_nil))))))))))))))))))))
  have k_PAIRS := cstB_ok X G (List.all_eq_true.mp cm.1 ("PAIRS", c_PAIRS) (by unfold hcs; simp)) nmAll (hT K) w
  have k_FINGERS := cstB_ok X G (List.all_eq_true.mp cm.1 ("FINGERS", c_FINGERS) (by unfold hcs; simp)) nmAll (hT K) w
  have e_InvalidHand := exF_ok X G (cd.fact 44 (f := .glo "InvalidHand") rfl) (cd.fact 46 (f := .exc "InvalidHand") rfl)
  have e_InvalidPattern := exF_ok X G (cd.fact 45 (f := .glo "InvalidPattern") rfl) (cd.fact 47 (f := .exc "InvalidPattern") rfl)
  have e := hlaw.symm.trans g_law
  cases e
  refine ⟨fd_law, fun s v => binds_law s [v] rfl, fun base _ _ tb => ?_⟩
  have O_is_between : FnOk PR w K mg base (L2.CX PR w) 1 _ fd_is_between ["value", "low", "high"] (SpOf ⟨K, mg, nmAll, hT K, w⟩ m_is_between 3) := def_ok (P := P_is_between (hT K)) F_is_between s_is_between 40 B_is_between (c_is_between (hT K)) ⟨blt, all_nil, all_nil, all_nil, Nat.le_of_ble_eq_true rfl, fun z => by cases z⟩
  have O_is_span : FnOk PR w K mg base (L2.CX PR w) 2 _ fd_is_span ["pair", "value"] (SpOf ⟨K, mg, nmAll, hT K, w⟩ m_is_span 2) := def_ok (P := P_is_span (hT K)) F_is_span s_is_span 40 B_is_span (c_is_span (hT K)) ⟨blt, all_nil, all_nil, all_cons (FnM.mk' (P := P_is_span (hT K)) (by kernel_rfl) (by rfl) g_is_between F_is_between.kp b_is_between O_is_between (Nat.le_of_ble_eq_true rfl) (fun _ z => by cases z)) (all_nil), Nat.le_of_ble_eq_true rfl, fun z => by cases z⟩
  have O_is_hand : FnOk PR w K mg base (L2.CX PR w) 3 _ fd_is_hand ["value"] (SpOf ⟨K, mg, nmAll, hT K, w⟩ m_is_hand 1) := def_ok (P := P_is_hand (hT K)) F_is_hand s_is_hand 40 B_is_hand (c_is_hand (hT K)) ⟨blt, all_cons k_PAIRS (all_nil), all_nil, all_cons (FnM.mk' (P := P_is_hand (hT K)) (by kernel_rfl) (by rfl) g_is_between F_is_between.kp b_is_between O_is_between (Nat.le_of_ble_eq_true rfl) (fun _ z => by cases z)) (all_cons (FnM.mk' (P := P_is_hand (hT K)) (by kernel_rfl) (by rfl) g_is_span F_is_span.kp b_is_span O_is_span (Nat.le_of_ble_eq_true rfl) (fun _ z => by cases z)) (all_nil)), Nat.le_of_ble_eq_true rfl, fun z => by cases z⟩
  have O_check_hand : FnOk PR w K mg base (L2.CX PR w) 4 _ fd_check_hand ["hand"] (SpOf ⟨K, mg, nmAll, hT K, w⟩ m_check_hand 1) := def_ok (P := P_check_hand (hT K)) F_check_hand s_check_hand 40 B_check_hand (c_check_hand (hT K)) ⟨blt, all_nil, all_cons e_InvalidHand (all_nil), all_cons (FnM.mk' (P := P_check_hand (hT K)) (by kernel_rfl) (by rfl) g_is_hand F_is_hand.kp b_is_hand O_is_hand (Nat.le_of_ble_eq_true rfl) (fun _ z => by cases z)) (all_nil), Nat.le_of_ble_eq_true rfl, fun z => by cases z⟩
  have O_does_step : FnOk PR w K mg base (L2.CX PR w) 1 _ fd_does_step ["hand", "finger", "step", "other"] (SpOf ⟨K, mg, nmAll, hT K, w⟩ m_does_step 4) := def_ok (P := P_does_step (hT K)) F_does_step s_does_step 40 B_does_step (c_does_step (hT K)) ⟨blt, all_cons k_PAIRS (all_nil), all_nil, all_nil, Nat.le_of_ble_eq_true rfl, fun z => by cases z⟩
  have O_after_step : FnOk PR w K mg base (L2.CX PR w) 2 _ fd_after_step ["hand", "fingers", "step"] (SpOf ⟨K, mg, nmAll, hT K, w⟩ m_after_step 3) := def_ok (P := P_after_step (hT K)) F_after_step s_after_step 40 B_after_step (c_after_step (hT K)) ⟨blt, all_cons k_FINGERS (all_nil), all_nil, all_cons (FnM.mk' (P := P_after_step (hT K)) (by kernel_rfl) (by rfl) g_does_step F_does_step.kp b_does_step O_does_step (Nat.le_of_ble_eq_true rfl) (fun _ z => by cases z)) (all_nil), Nat.le_of_ble_eq_true rfl, fun z => by cases z⟩
  have O_is_played : FnOk PR w K mg base (L2.CX PR w) 2 _ fd_is_played ["hand", "steps", "fingers"] (SpOf ⟨K, mg, nmAll, hT K, w⟩ m_is_played 3) := def_ok (P := P_is_played (hT K)) F_is_played s_is_played 40 B_is_played (c_is_played (hT K)) ⟨blt, all_nil, all_nil, all_cons (FnM.mk' (P := P_is_played (hT K)) (by kernel_rfl) (by rfl) g_does_step F_does_step.kp b_does_step O_does_step (Nat.le_of_ble_eq_true rfl) (fun _ z => by cases z)) (all_nil), Nat.le_of_ble_eq_true rfl, fun z => by cases z⟩
  have O_is_pattern : FnOk PR w K mg base (L2.CX PR w) 2 _ fd_is_pattern ["value"] (SpOf ⟨K, mg, nmAll, hT K, w⟩ m_is_pattern 1) := def_ok (P := P_is_pattern (hT K)) F_is_pattern s_is_pattern 40 B_is_pattern (c_is_pattern (hT K)) ⟨blt, all_nil, all_nil, all_cons (FnM.mk' (P := P_is_pattern (hT K)) (by kernel_rfl) (by rfl) g_is_between F_is_between.kp b_is_between O_is_between (Nat.le_of_ble_eq_true rfl) (fun _ z => by cases z)) (all_nil), Nat.le_of_ble_eq_true rfl, fun z => by cases z⟩
  have O_check_pattern : FnOk PR w K mg base (L2.CX PR w) 5 _ fd_check_pattern ["hand", "pattern"] (SpOf ⟨K, mg, nmAll, hT K, w⟩ m_check_pattern 2) := def_ok (P := P_check_pattern (hT K)) F_check_pattern s_check_pattern 40 B_check_pattern (c_check_pattern (hT K)) ⟨blt, all_nil, all_cons e_InvalidPattern (all_nil), all_cons (FnM.mk' (P := P_check_pattern (hT K)) (by kernel_rfl) (by rfl) g_check_hand F_check_hand.kp b_check_hand O_check_hand (Nat.le_of_ble_eq_true rfl) (fun _ z => by cases z)) (all_cons (FnM.mk' (P := P_check_pattern (hT K)) (by kernel_rfl) (by rfl) g_is_pattern F_is_pattern.kp b_is_pattern O_is_pattern (Nat.le_of_ble_eq_true rfl) (fun _ z => by cases z)) (all_nil)), Nat.le_of_ble_eq_true rfl, fun z => by cases z⟩
  have O_sets_back_to : FnOk PR w K mg base (L2.CX PR w) 3 _ fd_sets_back_to ["hand", "steps", "finger"] (SpOf ⟨K, mg, nmAll, hT K, w⟩ m_sets_back_to 3) := def_ok (P := P_sets_back_to (hT K)) F_sets_back_to s_sets_back_to 40 B_sets_back_to (c_sets_back_to (hT K)) ⟨blt, all_nil, all_nil, all_cons (FnM.mk' (P := P_sets_back_to (hT K)) (by kernel_rfl) (by rfl) g_after_step F_after_step.kp b_after_step O_after_step (Nat.le_of_ble_eq_true rfl) (fun _ z => by cases z)) (all_nil), Nat.le_of_ble_eq_true rfl, fun z => by cases z⟩
  have O_closed_of : FnOk PR w K mg base (L2.CX PR w) 4 _ fd_closed_of ["hand", "steps"] (SpOf ⟨K, mg, nmAll, hT K, w⟩ m_closed_of 2) := def_ok (P := P_closed_of (hT K)) F_closed_of s_closed_of 40 B_closed_of (c_closed_of (hT K)) ⟨blt, all_cons k_FINGERS (all_nil), all_nil, all_cons (FnM.mk' (P := P_closed_of (hT K)) (by kernel_rfl) (by rfl) g_sets_back_to F_sets_back_to.kp b_sets_back_to O_sets_back_to (Nat.le_of_ble_eq_true rfl) (fun _ z => by cases z)) (all_cons (FnM.mk' (P := P_closed_of (hT K)) (by kernel_rfl) (by rfl) g_after_step F_after_step.kp b_after_step O_after_step (Nat.le_of_ble_eq_true rfl) (fun _ z => by cases z)) (all_nil)), Nat.le_of_ble_eq_true rfl, fun z => by cases z⟩
  have O_loop : FnOk PR w K mg base (L2.CX PR w) 6 _ fd_loop ["hand", "pattern"] (SpOf ⟨K, mg, nmAll, hT K, w⟩ m_loop 2) := def_ok (P := P_loop (hT K)) F_loop s_loop 40 B_loop (c_loop (hT K)) ⟨blt, all_nil, all_nil, all_cons (FnM.mk' (P := P_loop (hT K)) (by kernel_rfl) (by rfl) g_check_pattern F_check_pattern.kp b_check_pattern O_check_pattern (Nat.le_of_ble_eq_true rfl) (fun _ z => by cases z)) (all_cons (FnM.mk' (P := P_loop (hT K)) (by kernel_rfl) (by rfl) g_closed_of F_closed_of.kp b_closed_of O_closed_of (Nat.le_of_ble_eq_true rfl) (fun _ z => by cases z)) (all_nil)), Nat.le_of_ble_eq_true rfl, fun z => by cases z⟩
  have O_is_loop : FnOk PR w K mg base (L2.CX PR w) 6 _ fd_is_loop ["hand", "pattern", "value"] (SpOf ⟨K, mg, nmAll, hT K, w⟩ m_is_loop 3) := def_ok (P := P_is_loop (hT K)) F_is_loop s_is_loop 40 B_is_loop (c_is_loop (hT K)) ⟨blt, all_nil, all_nil, all_cons (FnM.mk' (P := P_is_loop (hT K)) (by kernel_rfl) (by rfl) g_check_pattern F_check_pattern.kp b_check_pattern O_check_pattern (Nat.le_of_ble_eq_true rfl) (fun _ z => by cases z)) (all_cons (FnM.mk' (P := P_is_loop (hT K)) (by kernel_rfl) (by rfl) g_is_between F_is_between.kp b_is_between O_is_between (Nat.le_of_ble_eq_true rfl) (fun _ z => by cases z)) (all_cons (FnM.mk' (P := P_is_loop (hT K)) (by kernel_rfl) (by rfl) g_is_played F_is_played.kp b_is_played O_is_played (Nat.le_of_ble_eq_true rfl) (fun _ z => by cases z)) (all_nil))), Nat.le_of_ble_eq_true rfl, fun z => by cases z⟩
  have O__law_is : FnOk PR w K mg base (L2.CX PR w) 1 _ fd__law_is ["found", "expected"] (SpOf ⟨K, mg, nmAll, hT K, w⟩ m__law_is 2) := def_ok (P := P__law_is (hT K)) F__law_is s__law_is 40 B__law_is (c__law_is (hT K)) ⟨blt, all_nil, all_nil, all_nil, Nat.le_of_ble_eq_true rfl, fun z => by cases z⟩
  have O__law_draw : FnOk PR w K mg base (L2.CX PR w) 1 _ fd__law_draw ["script", "town", "many"] (SpOf ⟨K, mg, nmAll, hT K, w⟩ m__law_draw 3) := def_ok (P := P__law_draw (hT K)) F__law_draw s__law_draw 40 B__law_draw (c__law_draw (hT K)) ⟨blt, all_nil, all_nil, all_nil, Nat.le_of_ble_eq_true rfl, fun z => by cases z⟩
  have O__law_begun : FnOk PR w K mg base (L2.CX PR w) 1 _ fd__law_begun [] (SpOf ⟨K, mg, nmAll, hT K, w⟩ m__law_begun 0) := def_ok (P := P__law_begun (hT K)) F__law_begun s__law_begun 40 B__law_begun (c__law_begun (hT K)) ⟨blt, all_nil, all_nil, all_nil, Nat.le_of_ble_eq_true rfl, fun z => by cases z⟩
  have O__law_hand : FnOk PR w K mg base (L2.CX PR w) 2 _ fd__law_hand ["script", "town"] (SpOf ⟨K, mg, nmAll, hT K, w⟩ m__law_hand 2) := def_ok (P := P__law_hand (hT K)) F__law_hand s__law_hand 40 B__law_hand (c__law_hand (hT K)) ⟨blt, all_nil, all_nil, all_cons (FnM.mk' (P := P__law_hand (hT K)) (by kernel_rfl) (by rfl) g__law_draw F__law_draw.kp b__law_draw O__law_draw (Nat.le_of_ble_eq_true rfl) (fun _ z => by cases z)) (all_nil), Nat.le_of_ble_eq_true rfl, fun z => by cases z⟩
  have O__law_pattern : FnOk PR w K mg base (L2.CX PR w) 2 _ fd__law_pattern ["script", "town", "most"] (SpOf ⟨K, mg, nmAll, hT K, w⟩ m__law_pattern 3) := def_ok (P := P__law_pattern (hT K)) F__law_pattern s__law_pattern 40 B__law_pattern (c__law_pattern (hT K)) ⟨blt, all_nil, all_nil, all_cons (FnM.mk' (P := P__law_pattern (hT K)) (by kernel_rfl) (by rfl) g__law_draw F__law_draw.kp b__law_draw O__law_draw (Nat.le_of_ble_eq_true rfl) (fun _ z => by cases z)) (all_nil), Nat.le_of_ble_eq_true rfl, fun z => by cases z⟩
  have O__law_does : FnOk PR w K mg base (L2.CX PR w) 1 _ fd__law_does ["some", "finger", "by", "other"] (SpOf ⟨K, mg, nmAll, hT K, w⟩ m__law_does 4) := def_ok (P := P__law_does (hT K)) F__law_does s__law_does 40 B__law_does (c__law_does (hT K)) ⟨blt, all_nil, all_nil, all_nil, Nat.le_of_ble_eq_true rfl, fun z => by cases z⟩
  have O__law_after : FnOk PR w K mg base (L2.CX PR w) 2 _ fd__law_after ["some", "fingers", "by"] (SpOf ⟨K, mg, nmAll, hT K, w⟩ m__law_after 3) := def_ok (P := P__law_after (hT K)) F__law_after s__law_after 40 B__law_after (c__law_after (hT K)) ⟨blt, all_nil, all_nil, all_cons (FnM.mk' (P := P__law_after (hT K)) (by kernel_rfl) (by rfl) g__law_does F__law_does.kp b__law_does O__law_does (Nat.le_of_ble_eq_true rfl) (fun _ z => by cases z)) (all_nil), Nat.le_of_ble_eq_true rfl, fun z => by cases z⟩
  have O__law_closed : FnOk PR w K mg base (L2.CX PR w) 2 _ fd__law_closed ["some", "steps", "row"] (SpOf ⟨K, mg, nmAll, hT K, w⟩ m__law_closed 3) := def_ok (P := P__law_closed (hT K)) F__law_closed s__law_closed 40 B__law_closed (c__law_closed (hT K)) ⟨blt, all_nil, all_nil, all_cons (FnM.mk' (P := P__law_closed (hT K)) (by kernel_rfl) (by rfl) g__law_does F__law_does.kp b__law_does O__law_does (Nat.le_of_ble_eq_true rfl) (fun _ z => by cases z)) (all_nil), Nat.le_of_ble_eq_true rfl, fun z => by cases z⟩
  have O__law_first : FnOk PR w K mg base (L2.CX PR w) 3 _ fd__law_first ["some", "steps", "many"] (SpOf ⟨K, mg, nmAll, hT K, w⟩ m__law_first 3) := def_ok (P := P__law_first (hT K)) F__law_first s__law_first 40 B__law_first (c__law_first (hT K)) ⟨blt, all_nil, all_nil, all_cons (FnM.mk' (P := P__law_first (hT K)) (by kernel_rfl) (by rfl) g__law_after F__law_after.kp b__law_after O__law_after (Nat.le_of_ble_eq_true rfl) (fun _ z => by cases z)) (all_nil), Nat.le_of_ble_eq_true rfl, fun z => by cases z⟩
  have kwp_law__law_begun : ∀ n, (("_law_begun" : Str), n) ∈ ([("loop", 0), ("is_loop", 2)] : List (Str × Nat)) → KBn K fd__law_begun [] n (([] : List Str).drop n) (fun us ws => us ++ ws) (fun us ws => us ++ ws) := fun n z => (kw_no (by decide) z).elim
  have kwp_law__law_pattern : ∀ n, (("_law_pattern" : Str), n) ∈ ([("loop", 0), ("is_loop", 2)] : List (Str × Nat)) → KBn K fd__law_pattern ["script", "town", "most"] n ((["script", "town", "most"] : List Str).drop n) (fun us ws => us ++ ws) (fun us ws => us ++ ws) := fun n z => (kw_no (by decide) z).elim
  have kwp_law__law_hand : ∀ n, (("_law_hand" : Str), n) ∈ ([("loop", 0), ("is_loop", 2)] : List (Str × Nat)) → KBn K fd__law_hand ["script", "town"] n ((["script", "town"] : List Str).drop n) (fun us ws => us ++ ws) (fun us ws => us ++ ws) := fun n z => (kw_no (by decide) z).elim
  have kwp_law__law_first : ∀ n, (("_law_first" : Str), n) ∈ ([("loop", 0), ("is_loop", 2)] : List (Str × Nat)) → KBn K fd__law_first ["some", "steps", "many"] n ((["some", "steps", "many"] : List Str).drop n) (fun us ws => us ++ ws) (fun us ws => us ++ ws) := fun n z => (kw_no (by decide) z).elim
  have kwp_law_loop : ∀ n, (("loop" : Str), n) ∈ ([("loop", 0), ("is_loop", 2)] : List (Str × Nat)) → KBn K fd_loop ["hand", "pattern"] n ((["hand", "pattern"] : List Str).drop n) (fun us ws => us ++ ws) (fun us ws => us ++ ws) := fun n z => by rw [kw_only (j := 0) (by decide) z]; exact kb_loop_0
  have kwp_law__law_draw : ∀ n, (("_law_draw" : Str), n) ∈ ([("loop", 0), ("is_loop", 2)] : List (Str × Nat)) → KBn K fd__law_draw ["script", "town", "many"] n ((["script", "town", "many"] : List Str).drop n) (fun us ws => us ++ ws) (fun us ws => us ++ ws) := fun n z => (kw_no (by decide) z).elim
  have kwp_law__law_closed : ∀ n, (("_law_closed" : Str), n) ∈ ([("loop", 0), ("is_loop", 2)] : List (Str × Nat)) → KBn K fd__law_closed ["some", "steps", "row"] n ((["some", "steps", "row"] : List Str).drop n) (fun us ws => us ++ ws) (fun us ws => us ++ ws) := fun n z => (kw_no (by decide) z).elim
  have kwp_law__law_is : ∀ n, (("_law_is" : Str), n) ∈ ([("loop", 0), ("is_loop", 2)] : List (Str × Nat)) → KBn K fd__law_is ["found", "expected"] n ((["found", "expected"] : List Str).drop n) (fun us ws => us ++ ws) (fun us ws => us ++ ws) := fun n z => (kw_no (by decide) z).elim
  have kwp_law_is_loop : ∀ n, (("is_loop" : Str), n) ∈ ([("loop", 0), ("is_loop", 2)] : List (Str × Nat)) → KBn K fd_is_loop ["hand", "pattern", "value"] n ((["hand", "pattern", "value"] : List Str).drop n) (fun us ws => us ++ ws) (fun us ws => us ++ ws) := fun n z => by rw [kw_only (j := 2) (by decide) z]; exact kb_is_loop_2
  have lm : LamM (P_law (hT K)) K mg w := lamM_of (PR := P__law_result 6 (hT K)) (st := topS 36) (args := defArgs (topS 36)) (ie := 3) (ir := 1) (ia := 2) F__law_result g__law_result b__law_result rfl (Nat.le_of_ble_eq_true rfl) s__law_result cut__law_result rfl rfl rfl (by decide) (by decide +kernel) (by decide +kernel) (by decide +kernel) (by decide +kernel) mF hF 40 B__law_result (c__law_result 6 (hT K)) res_B blt rfl rfl rfl (Nat.zero_le _) xk rfl rfl
  have O_law : FnOk PR w K mg base (L2.CX PR w) 9 _ fd_law ["script"] (SpOf ⟨K, mg, nmAll, hT K, w⟩ m_law 1) := def_okL (P := P_law (hT K)) F_law s_law 40 B_law (c_law (hT K)) ⟨blt, all_nil, all_nil, all_cons (FnM.mk' (P := P_law (hT K)) (by kernel_rfl) (by rfl) g__law_begun F__law_begun.kp b__law_begun O__law_begun (Nat.le_of_ble_eq_true rfl) (kwp_law__law_begun)) (all_cons (FnM.mk' (P := P_law (hT K)) (by kernel_rfl) (by rfl) g__law_pattern F__law_pattern.kp b__law_pattern O__law_pattern (Nat.le_of_ble_eq_true rfl) (kwp_law__law_pattern)) (all_cons (FnM.mk' (P := P_law (hT K)) (by kernel_rfl) (by rfl) g__law_hand F__law_hand.kp b__law_hand O__law_hand (Nat.le_of_ble_eq_true rfl) (kwp_law__law_hand)) (all_cons (FnM.mk' (P := P_law (hT K)) (by kernel_rfl) (by rfl) g__law_first F__law_first.kp b__law_first O__law_first (Nat.le_of_ble_eq_true rfl) (kwp_law__law_first)) (all_cons (FnM.mk' (P := P_law (hT K)) (by kernel_rfl) (by rfl) g_loop F_loop.kp b_loop O_loop (Nat.le_of_ble_eq_true rfl) (kwp_law_loop)) (all_cons (FnM.mk' (P := P_law (hT K)) (by kernel_rfl) (by rfl) g__law_draw F__law_draw.kp b__law_draw O__law_draw (Nat.le_of_ble_eq_true rfl) (kwp_law__law_draw)) (all_cons (FnM.mk' (P := P_law (hT K)) (by kernel_rfl) (by rfl) g__law_closed F__law_closed.kp b__law_closed O__law_closed (Nat.le_of_ble_eq_true rfl) (kwp_law__law_closed)) (all_cons (FnM.mk' (P := P_law (hT K)) (by kernel_rfl) (by rfl) g__law_is F__law_is.kp b__law_is O__law_is (Nat.le_of_ble_eq_true rfl) (kwp_law__law_is)) (all_cons (FnM.mk' (P := P_law (hT K)) (by kernel_rfl) (by rfl) g_is_loop F_is_loop.kp b_is_loop O_is_loop (Nat.le_of_ble_eq_true rfl) (kwp_law_is_loop)) (all_nil))))))))), Nat.le_of_ble_eq_true rfl, fun z => by cases z⟩ lm ⟨_, _, code_at (p := hdn) F_law, tb _ (List.mem_singleton.mpr rfl), List.mem_singleton.mpr rfl, fun p hp _ => by rw [List.mem_singleton.mp hp]⟩
  exact O_law
end KF
open PySem PySem.W PySem.Calls PyProof.Rows
set_option maxHeartbeats 0 in
theorem PySem.Challenge.cw_keyfingers_k17_loops_holds : PySem.Challenge.rw_keyfingers_k17_loops.Holds := by
  w_on; o_law
  refine HandSHeadRun.head_any (r := OpenLaw.row PySem.Challenge.rw_keyfingers_k17_loops) (q := view (OpenLaw.row PySem.Challenge.rw_keyfingers_k17_loops).prog [46]) (H := KF.hk) (ob := KF.hob) (M := 40000) (loose := KF.looseN) (d := HandSHeadRun.topDef (OpenLaw.row PySem.Challenge.rw_keyfingers_k17_loops).prog 46) (kwd := []) KF.hob_eq
    (by kernel_rfl) (fun s => by kernel_rfl) KF.hrun (by kernel_rfl) (by kernel_rfl) (by kernel_rfl) (by rfl) (by first | assumption | decide +kernel) (by decide +kernel) ⟨rfl, rfl, rfl, rfl, rfl, by decide +kernel⟩ ?hw ?hc
  case hw => w_witness2
  case hc =>
    refine LamX.walk_ofTsE (l := PySem.Challenge.rw_keyfingers_k17_loops) (n := 63) (k := 9) (CX := fun w => L2.CX (PySem.Challenge.rw_keyfingers_k17_loops).prog w) (x := "script") rfl (by decide) (by kernel_rfl) (KF.room_law (by decide)) ?F ?X
    case X =>
      intro w H s e s' z
      obtain ⟨_, _, _, _, _, _, _, _, _, _, _, _, z⟩ := z
      exact z.elim
    intro w mg fa h Y G hmg0
    obtain ⟨K, KX, c⟩ := Y
    have hmg : mg ("law" : PySem.Str) = some (.ref fa) := by
      have e : (HandSHeadRun.topDef (OpenLaw.row PySem.Challenge.rw_keyfingers_k17_loops).prog 46).name = ("law" : PySem.Str) := by kernel_rfl
      rw [← e]
      exact hmg0
    obtain ⟨fd, hb, hF⟩ := KF.hfacts (PR := (PySem.Challenge.rw_keyfingers_k17_loops).prog) (w := w) KX G hmg c
    refine ⟨K, KX, fd, [He.cT K KF.hdn], KF.SpOf ⟨K, mg, KF.nmAll, KF.hT K, w⟩ KF.m_law 1, ?_, ?_, ?_, hb, ?_, hF⟩
    · intro p hp
      rw [List.mem_singleton.mp hp]
      exact c.empty _ (List.mem_singleton.mpr rfl)
    · intro p hp
      rw [List.mem_singleton.mp hp]
      exact c.out _ (List.mem_singleton.mpr rfl)
    · intro p hp
      rw [List.mem_singleton.mp hp]
      exact PySem.W.codeHd_of_K KX (c.hd _ (List.mem_singleton.mpr rfl))
    · intro H a ns hl _ hH hS
      refine KF.sp_law (KF.tabs_new fun p hp => ?_) hS (KF.law_true ns hl)
      rw [List.mem_singleton.mp hp]
      exact hH _ (List.mem_singleton.mpr rfl)
