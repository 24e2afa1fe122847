import PyProof.Rows.All
import Wide.All
import OpenK.AllK
import Wide.FinOn
import HandS.ForMost
import HandS.Exc
import HandS.TryOnly
import HandS.ExcOwn
import HandS.WordsExc
import KE.SortData
import KE.SortCalls
import KE.DataCmp
import KE.DataIsa
import KE.DataAny
import KE.DataMinMax
import KE.DatumIndex
import PyProof.ReprRoads
import HandS.Wide
import HandS.Style
import HandS.FStr
import HandS.Zip
import HandS.Small
import HandS.More
import HandS.Conv
import HandS.Text
import HandS.TupLen
import HandS.Ends
import HandS.List
import KE.DatumOrd
import PySem.Challenge.RW_webtimes_k15_whole_walks_among_rows
set_option Elab.async false
set_option linter.all false
set_option maxRecDepth 100000
set_option maxHeartbeats 4000000
/-! DS: values told as data (PyData), environments as slots; over HandS. -/
namespace DS
open PySem PySem.Spec PyProof.Rows L2
abbrev D := PyData
abbrev St := L2.St
def keyD : Key → D
  | .inl i => .int i
  | .inr x => .str x
def keyT (l : List Key) : D := .tuple (l.map keyD)
/-- what stands at a dict's address: its keys, its values -/
inductive DictU : HO → List D → List V → Prop
  | k (kv : List (Key × V)) : DictU (.dK kv) (kv.map fun p => keyD p.1) (kv.map fun p => p.2)
  | t (kv : List (List Key × V)) : DictU (.dT kv) (kv.map fun p => keyT p.1) (kv.map fun p => p.2)
mutual
/-- v reads as d; no list or dict or tuple of it is at A -/
inductive RepD (A : List Addr) (H : Hp) : D → V → Prop
  | non : RepD A H .none .non
  | bl (b : Bool) : RepD A H (.bool b) (.bl b)
  | int (i : Int) : RepD A H (.int i) (.int i)
  | str (x : Str) : RepD A H (.str x) (.str x)
  | lst {ds : List D} {a : Addr} {xs : List V} : a ∉ A → Rd H a (.lst xs) → RepDs A H ds xs → RepD A H (.list ds) (.ref a)
  | tup {ds : List D} {a : Addr} {xs : List V} : a ∉ A → H a = some (.tup xs) → RepDs A H ds xs → RepD A H (.tuple ds) (.ref a)
  | dic {kvs : List (D × D)} {a : Addr} {u : HO} {vs : List V} : a ∉ A → H a = some u → DictU u (kvs.map (·.1)) vs → RepDs A H (kvs.map (·.2)) vs → RepD A H (.dict kvs) (.ref a)
inductive RepDs (A : List Addr) (H : Hp) : List D → List V → Prop
  | nil : RepDs A H [] []
  | cons {d : D} {v : V} {ds : List D} {vs : List V} : RepD A H d v → RepDs A H ds vs → RepDs A H (d :: ds) (v :: vs)
end
theorem rdI {H : Hp} {a : Addr} {u : HO} (h : H a = some u) : Rd H a u := .inl h
section
variable {A A' : List Addr} {H H' : Hp}
theorem Rd.stay' {a : Addr} {u : HO} (r : Rd H a u) (k : ∀ b u, H b = some u → b ∉ A → H' b = some u ∧ b ∉ A') (n : a ∉ A) : Rd H' a u ∧ a ∉ A' := by
  rcases r with r | ⟨o, r⟩
  · exact ⟨.inl (k _ _ r n).1, (k _ _ r n).2⟩
  · exact ⟨.inr ⟨o, (k _ _ r n).1⟩, (k _ _ r n).2⟩
mutual
theorem RepD.stay (k : ∀ b u, H b = some u → b ∉ A → H' b = some u ∧ b ∉ A') : ∀ {d : D} {v : V}, RepD A H d v → RepD A' H' d v
  | _, _, .non => .non
  | _, _, .bl b => .bl b
  | _, _, .int i => .int i
  | _, _, .str x => .str x
  | _, _, .lst n r s => .lst (Rd.stay' r k n).2 (Rd.stay' r k n).1 (RepDs.stay k s)
  | _, _, .tup n r s => .tup (k _ _ r n).2 (k _ _ r n).1 (RepDs.stay k s)
  | _, _, .dic n r u s => .dic (k _ _ r n).2 (k _ _ r n).1 u (RepDs.stay k s)
theorem RepDs.stay (k : ∀ b u, H b = some u → b ∉ A → H' b = some u ∧ b ∉ A') : ∀ {ds : List D} {vs : List V}, RepDs A H ds vs → RepDs A' H' ds vs
  | _, _, .nil => .nil
  | _, _, .cons r s => .cons (RepD.stay k r) (RepDs.stay k s)
end
theorem RepDs.length : ∀ {ds : List D} {vs : List V}, RepDs A H ds vs → ds.length = vs.length
  | _, _, .nil => rfl
  | _, _, .cons _ s => congrArg Nat.succ (RepDs.length s)
theorem RepDs.get : ∀ {ds : List D} {vs : List V} {i : Nat} {d : D}, RepDs A H ds vs → ds[i]? = some d → ∃ v, vs[i]? = some v ∧ RepD A H d v
  | _, _, _, _, .nil, e => by simp at e
  | _, _, 0, _, .cons r _, e => by simp at e; subst e; exact ⟨_, rfl, r⟩
  | _, _, i + 1, d, .cons _ s, e => by
    obtain ⟨v, h1, h2⟩ := RepDs.get (i := i) (d := d) s (by simpa using e)
    exact ⟨v, by simpa using h1, h2⟩
theorem RepDs.getV : ∀ {ds : List D} {vs : List V} {i : Nat} {v : V}, RepDs A H ds vs → vs[i]? = some v → ∃ d, ds[i]? = some d ∧ RepD A H d v
  | _, _, _, _, .nil, e => by simp at e
  | _, _, 0, _, .cons r _, e => by simp at e; subst e; exact ⟨_, rfl, r⟩
  | _, _, i + 1, d, .cons _ s, e => by
    obtain ⟨v, h1, h2⟩ := RepDs.getV (i := i) (v := d) s (by simpa using e)
    exact ⟨v, by simpa using h1, h2⟩
theorem RepDs.append : ∀ {ds es : List D} {vs ws : List V}, RepDs A H ds vs → RepDs A H es ws → RepDs A H (ds ++ es) (vs ++ ws)
  | _, _, _, _, .nil, t => t
  | _, _, _, _, .cons r s, t => .cons r (RepDs.append s t)
theorem RepDs.take : ∀ {ds : List D} {vs : List V} (n : Nat), RepDs A H ds vs → RepDs A H (ds.take n) (vs.take n)
  | _, _, 0, _ => .nil
  | _, _, _ + 1, .nil => .nil
  | _, _, n + 1, .cons r s => .cons r (RepDs.take n s)
theorem RepDs.drop : ∀ {ds : List D} {vs : List V} (n : Nat), RepDs A H ds vs → RepDs A H (ds.drop n) (vs.drop n)
  | _, _, 0, r => r
  | _, _, _ + 1, .nil => .nil
  | _, _, n + 1, .cons _ s => RepDs.drop n s
theorem RepDs.reverse {ds : List D} {vs : List V} (h : RepDs A H ds vs) : RepDs A H ds.reverse vs.reverse := by
  have go : ∀ {ds es : List D} {vs ws : List V}, RepDs A H ds vs → RepDs A H es ws → RepDs A H (ds.reverseAux es) (vs.reverseAux ws) := by
    intro ds
    induction ds with
    | nil => intro es vs ws h t; cases h; exact t
    | cons d ds ih =>
      intro es vs ws h t
      cases h with
      | cons r s =>
        have q := ih s (RepDs.cons r t)
        exact q
  exact go h .nil
theorem RepDs.rep {ds : List D} {vs : List V} (h : RepDs A H ds vs) : ∀ n : Nat, RepDs A H (List.replicate n ds).flatten (List.replicate n vs).flatten
  | 0 => .nil
  | n + 1 => by
    rw [List.replicate_succ, List.replicate_succ, List.flatten_cons, List.flatten_cons]
    exact h.append (RepDs.rep h n)
theorem RepDs.ints : ∀ (ns : List Int), RepDs A H (ns.map .int) (ns.map V.int)
  | [] => .nil
  | n :: ns => .cons (.int n) (RepDs.ints ns)
theorem RepDs.mapInts : ∀ {ns : List Int} {vs : List V}, RepDs A H (ns.map PyData.int) vs → vs = ns.map V.int
  | [], _, .nil => rfl
  | n :: ns, _, .cons r s => by
    cases r
    rw [RepDs.mapInts s]; rfl
end
/-! ### owned trees -/
inductive O where
  | sh (d : D)
  | lst (l : List O)
  | tup (l : List O)
  | dic (kvs : List (D × O))
namespace O
mutual
def erase : O → D
  | .sh d => d
  | .lst l => .list (eraseL l)
  | .tup l => .tuple (eraseL l)
  | .dic kvs => .dict (eraseK kvs)
def eraseL : List O → List D
  | [] => []
  | o :: l => erase o :: eraseL l
def eraseK : List (D × O) → List (D × D)
  | [] => []
  | (k, o) :: l => (k, erase o) :: eraseK l
end
@[simp] theorem erase_sh (d : D) : (O.sh d).erase = d := by rw [erase]
@[simp] theorem erase_lst (l : List O) : (O.lst l).erase = .list (l.map erase) := by
  rw [erase]; congr 1
  induction l with
  | nil => rw [eraseL]; rfl
  | cons a l ih => rw [eraseL, ih]; rfl
@[simp] theorem erase_tup (l : List O) : (O.tup l).erase = .tuple (l.map erase) := by
  rw [erase]; congr 1
  induction l with
  | nil => rw [eraseL]; rfl
  | cons a l ih => rw [eraseL, ih]; rfl
theorem eraseK_map : ∀ kvs : List (D × O), eraseK kvs = kvs.map fun p => (p.1, p.2.erase)
  | [] => by rw [eraseK]; rfl
  | (k, o) :: l => by rw [eraseK, eraseK_map l]; rfl
@[simp] theorem erase_dic (kvs : List (D × O)) : (O.dic kvs).erase = .dict (kvs.map fun p => (p.1, p.2.erase)) := by
  rw [erase, eraseK_map]
end O
mutual
inductive RepO (A : List Addr) (H : Hp) : O → V → List Addr → Prop
  | sh {d : D} {v : V} : RepD A H d v → RepO A H (.sh d) v []
  | lst {os : List O} {a : Addr} {xs : List V} {fp : List Addr} : H a = some (.lst xs) → RepOs A H os xs fp → RepO A H (.lst os) (.ref a) (a :: fp)
  | tup {os : List O} {a : Addr} {xs : List V} {fp : List Addr} : a ∉ A → H a = some (.tup xs) → RepOs A H os xs fp → RepO A H (.tup os) (.ref a) fp
  | dic {kvs : List (D × O)} {a : Addr} {u : HO} {vs : List V} {fp : List Addr} : H a = some u → DictU u (kvs.map (·.1)) vs → RepOs A H (kvs.map (·.2)) vs fp → RepO A H (.dic kvs) (.ref a) (a :: fp)
inductive RepOs (A : List Addr) (H : Hp) : List O → List V → List Addr → Prop
  | nil : RepOs A H [] [] []
  | cons {o : O} {v : V} {fo : List Addr} {os : List O} {vs : List V} {fp : List Addr} : RepO A H o v fo → RepOs A H os vs fp → RepOs A H (o :: os) (v :: vs) (fo ++ fp)
end
section
variable {A A' B : List Addr} {H H' : Hp}
mutual
theorem RepO.stay : ∀ {o : O} {v : V} {fp : List Addr}, RepO A H o v fp → (∀ b u, H b = some u → b ∉ A → H' b = some u ∧ b ∉ A') → (∀ b u, H b = some u → b ∈ fp → H' b = some u) → RepO A' H' o v fp
  | _, _, _, .sh r, k, _ => .sh (r.stay k)
  | _, _, _, .lst e r, k, f => .lst (f _ _ e (List.mem_cons_self)) (RepOs.stay r k fun b u q hb => f b u q (List.mem_cons_of_mem _ hb))
  | _, _, _, .tup n e r, k, f => .tup (k _ _ e n).2 (k _ _ e n).1 (RepOs.stay r k f)
  | _, _, _, .dic e u r, k, f => .dic (f _ _ e (List.mem_cons_self)) u (RepOs.stay r k fun b u q hb => f b u q (List.mem_cons_of_mem _ hb))
theorem RepOs.stay : ∀ {os : List O} {vs : List V} {fp : List Addr}, RepOs A H os vs fp → (∀ b u, H b = some u → b ∉ A → H' b = some u ∧ b ∉ A') → (∀ b u, H b = some u → b ∈ fp → H' b = some u) → RepOs A' H' os vs fp
  | _, _, _, .nil, _, _ => .nil
  | _, _, _, .cons r s, k, f => .cons (RepO.stay r k fun b u q hb => f b u q (List.mem_append_left _ hb)) (RepOs.stay s k fun b u q hb => f b u q (List.mem_append_right _ hb))
end
mutual
/-- what is owned becomes shared -/
theorem RepO.froze : ∀ {o : O} {v : V} {fp : List Addr}, RepO A H o v fp → (∀ b ∈ B, b ∈ A ∧ b ∉ fp) → RepD B H o.erase v
  | _, _, _, .sh r, k => by
    rw [O.erase_sh]
    exact r.stay fun b u e n => ⟨e, fun h => n (k b h).1⟩
  | _, _, _, .lst e r, k => by
    rw [O.erase_lst]
    exact .lst (fun h => (k _ h).2 List.mem_cons_self) (.inl e) (RepOs.froze r fun b h => ⟨(k b h).1, fun q => (k b h).2 (List.mem_cons_of_mem _ q)⟩)
  | _, _, _, .tup n e r, k => by
    rw [O.erase_tup]
    exact .tup (fun h => n (k _ h).1) e (RepOs.froze r k)
  | _, _, _, @RepO.dic _ _ kvs _ _ _ _ e u r, k => by
    rw [O.erase_dic]
    have h1 : (kvs.map fun p => (p.1, p.2.erase)).map (·.1) = kvs.map (·.1) := by rw [List.map_map]; rfl
    have h2 : (kvs.map fun p => (p.1, p.2.erase)).map (·.2) = (kvs.map (·.2)).map O.erase := by rw [List.map_map, List.map_map]; rfl
    exact .dic (fun h => (k _ h).2 List.mem_cons_self) e (by rw [h1]; exact u) (by rw [h2]; exact RepOs.froze r fun b h => ⟨(k b h).1, fun q => (k b h).2 (List.mem_cons_of_mem _ q)⟩)
theorem RepOs.froze : ∀ {os : List O} {vs : List V} {fp : List Addr}, RepOs A H os vs fp → (∀ b ∈ B, b ∈ A ∧ b ∉ fp) → RepDs B H (os.map O.erase) vs
  | _, _, _, .nil, _ => .nil
  | _, _, _, .cons r s, k => .cons (RepO.froze r fun b h => ⟨(k b h).1, fun q => (k b h).2 (List.mem_append_left _ q)⟩) (RepOs.froze s fun b h => ⟨(k b h).1, fun q => (k b h).2 (List.mem_append_right _ q)⟩)
end
theorem RepOs.append : ∀ {os ps : List O} {vs ws : List V} {f g : List Addr}, RepOs A H os vs f → RepOs A H ps ws g → RepOs A H (os ++ ps) (vs ++ ws) (f ++ g)
  | _, _, _, _, _, _, .nil, t => t
  | _, _, _, _, _, _, .cons r s, t => by
    rw [List.append_assoc]
    exact .cons r (RepOs.append s t)
theorem RepOs.length : ∀ {os : List O} {vs : List V} {fp : List Addr}, RepOs A H os vs fp → os.length = vs.length
  | _, _, _, .nil => rfl
  | _, _, _, .cons _ s => congrArg Nat.succ (RepOs.length s)
/-- items that are shared -/
theorem RepDs.toO : ∀ {ds : List D} {vs : List V}, RepDs A H ds vs → RepOs A H (ds.map .sh) vs []
  | _, _, .nil => .nil
  | _, _, .cons r s => .cons (fo := []) (.sh r) (RepDs.toO s)
theorem RepOs.toD : ∀ {ds : List D} {vs : List V} {fp : List Addr}, RepOs A H (ds.map .sh) vs fp → RepDs A H ds vs ∧ fp = []
  | [], _, _, .nil => ⟨.nil, rfl⟩
  | d :: ds, _, _, .cons r s => by
    cases r with
    | sh r =>
      obtain ⟨h, e⟩ := RepOs.toD s
      exact ⟨.cons r h, by rw [e]; rfl⟩
/-- an item taken out -/
theorem RepOs.split : ∀ {os : List O} {vs : List V} {fp : List Addr} {i : Nat} {o : O}, RepOs A H os vs fp → os[i]? = some o →
    ∃ v fo f1 f2, vs[i]? = some v ∧ RepO A H o v fo ∧ fp = f1 ++ fo ++ f2 ∧ RepOs A H (os.eraseIdx i) (vs.eraseIdx i) (f1 ++ f2) ∧
      ∀ (A' : List Addr) (H' : Hp), (∀ b u, H b = some u → b ∉ A → H' b = some u ∧ b ∉ A') → (∀ b u, H b = some u → b ∈ f1 ++ f2 → H' b = some u) →
        ∀ o' v' fo', RepO A' H' o' v' fo' → RepOs A' H' (os.set i o') (vs.set i v') (f1 ++ fo' ++ f2)
  | _, _, _, _, _, .nil, e => by simp at e
  | _, _, _, 0, _, @RepOs.cons _ _ o v fo os vs fp r s, e => by
    simp at e; subst e
    exact ⟨v, fo, [], fp, rfl, r, rfl, s, fun A' H' k1 k2 o' v' fo' r' => .cons r' (s.stay k1 k2)⟩
  | _, _, _, i + 1, o', @RepOs.cons _ _ o v fo os vs fp r s, e => by
    obtain ⟨v', fo', f1, f2, h1, h2, h3, h4, h5⟩ := RepOs.split (i := i) (o := o') s (by simpa using e)
    refine ⟨v', fo', fo ++ f1, f2, by simpa using h1, h2, by rw [h3]; simp, by rw [List.append_assoc]; exact .cons r h4, fun A' H' k1 k2 o'' v'' fo'' r' => ?_⟩
    have q : fo ++ f1 ++ fo'' ++ f2 = fo ++ (f1 ++ fo'' ++ f2) := by simp
    rw [q]
    exact .cons (r.stay k1 fun b u e hb => k2 b u e (by simp [hb])) (h5 A' H' k1 (fun b u e hb => k2 b u e (by
      rw [List.append_assoc]; exact List.mem_append_right _ hb)) o'' v'' fo'' r')
end
/-! ### the names' slots -/
abbrev Env := List (Option O)
inductive RepEnv (A : List Addr) (H : Hp) : Env → St → List Addr → Prop
  | nil : RepEnv A H [] [] []
  | no {Γ : Env} {σ : St} {fp : List Addr} {x : Option V} : RepEnv A H Γ σ fp → RepEnv A H (none :: Γ) (x :: σ) fp
  | yes {Γ : Env} {σ : St} {fp fo : List Addr} {o : O} {v : V} : RepO A H o v fo → RepEnv A H Γ σ fp → RepEnv A H (some o :: Γ) (some v :: σ) (fo ++ fp)
section
variable {A A' : List Addr} {H H' : Hp}
theorem RepEnv.stay : ∀ {Γ : Env} {σ : St} {fp : List Addr}, RepEnv A H Γ σ fp → (∀ b u, H b = some u → b ∉ A → H' b = some u ∧ b ∉ A') → (∀ b u, H b = some u → b ∈ fp → H' b = some u) → RepEnv A' H' Γ σ fp
  | _, _, _, .nil, _, _ => .nil
  | _, _, _, .no r, k, f => .no (RepEnv.stay r k f)
  | _, _, _, .yes r s, k, f => .yes (r.stay k fun b u q hb => f b u q (List.mem_append_left _ hb)) (RepEnv.stay s k fun b u q hb => f b u q (List.mem_append_right _ hb))
theorem RepEnv.length : ∀ {Γ : Env} {σ : St} {fp : List Addr}, RepEnv A H Γ σ fp → Γ.length = σ.length
  | _, _, _, .nil => rfl
  | _, _, _, .no r => congrArg Nat.succ (RepEnv.length r)
  | _, _, _, .yes _ r => congrArg Nat.succ (RepEnv.length r)
/-- a slot taken out -/
theorem RepEnv.split : ∀ {Γ : Env} {σ : St} {fp : List Addr} {i : Nat} {o : O}, RepEnv A H Γ σ fp → Γ[i]? = some (some o) →
    ∃ v fo f1 f2, σ[i]? = some (some v) ∧ RepO A H o v fo ∧ fp = f1 ++ fo ++ f2 ∧ (∀ x, RepEnv A H (Γ.set i none) (σ.set i x) (f1 ++ f2)) ∧
      ∀ (A' : List Addr) (H' : Hp), (∀ b u, H b = some u → b ∉ A → H' b = some u ∧ b ∉ A') → (∀ b u, H b = some u → b ∈ f1 ++ f2 → H' b = some u) →
        ∀ o' v' fo', RepO A' H' o' v' fo' → RepEnv A' H' (Γ.set i (some o')) (σ.set i (some v')) (f1 ++ fo' ++ f2)
  | _, _, _, _, _, .nil, e => by simp at e
  | _, _, _, 0, _, .no r, e => by simp at e
  | _, _, _, i + 1, o', @RepEnv.no _ _ Γ σ fp x r, e => by
    obtain ⟨v', fo', f1, f2, h1, h2, h3, h4, h5⟩ := RepEnv.split (i := i) (o := o') r (by simpa using e)
    exact ⟨v', fo', f1, f2, by simpa using h1, h2, h3, fun y => .no (h4 y), fun A' H' k1 k2 o'' v'' fo'' r' => .no (h5 A' H' k1 k2 o'' v'' fo'' r')⟩
  | _, _, _, 0, _, @RepEnv.yes _ _ Γ σ fp fo o v r s, e => by
    simp at e; subst e
    exact ⟨v, fo, [], fp, rfl, r, rfl, fun y => .no s, fun A' H' k1 k2 o' v' fo' r' => .yes r' (s.stay k1 k2)⟩
  | _, _, _, i + 1, o', @RepEnv.yes _ _ Γ σ fp fo o v r s, e => by
    obtain ⟨v', fo', f1, f2, h1, h2, h3, h4, h5⟩ := RepEnv.split (i := i) (o := o') s (by simpa using e)
    refine ⟨v', fo', fo ++ f1, f2, by simpa using h1, h2, by rw [h3]; simp, fun y => by rw [List.append_assoc]; exact .yes r (h4 y), fun A' H' k1 k2 o'' v'' fo'' r' => ?_⟩
    have q : fo ++ f1 ++ fo'' ++ f2 = fo ++ (f1 ++ fo'' ++ f2) := by simp
    rw [q]
    exact .yes (r.stay k1 fun b u e hb => k2 b u e (by simp [hb])) (h5 A' H' k1 (fun b u e hb => k2 b u e (by
      rw [List.append_assoc]; exact List.mem_append_right _ hb)) o'' v'' fo'' r')
/-- any slot may be filled; what it owned is let go -/
theorem RepEnv.put : ∀ {Γ : Env} {σ : St} {fp : List Addr} {i : Nat}, RepEnv A H Γ σ fp → i < Γ.length →
    ∃ f1 f2 g, fp = f1 ++ g ++ f2 ∧ (∀ x, RepEnv A H (Γ.set i none) (σ.set i x) (f1 ++ f2)) ∧
      ∀ (A' : List Addr) (H' : Hp), (∀ b u, H b = some u → b ∉ A → H' b = some u ∧ b ∉ A') → (∀ b u, H b = some u → b ∈ f1 ++ f2 → H' b = some u) →
        ∀ o' v' fo', RepO A' H' o' v' fo' → RepEnv A' H' (Γ.set i (some o')) (σ.set i (some v')) (f1 ++ fo' ++ f2)
  | _, _, _, _, .nil, e => by simp at e
  | _, _, _, 0, @RepEnv.no _ _ Γ σ fp x r, _ => ⟨[], fp, [], rfl, fun y => .no r, fun A' H' k1 k2 o' v' fo' r' => .yes r' (r.stay k1 k2)⟩
  | _, _, _, i + 1, @RepEnv.no _ _ Γ σ fp x r, e => by
    obtain ⟨f1, f2, g, h2, h3, h4⟩ := RepEnv.put (i := i) r (by simpa using e)
    exact ⟨f1, f2, g, h2, fun y => .no (h3 y), fun A' H' k1 k2 o'' v'' fo'' r' => .no (h4 A' H' k1 k2 o'' v'' fo'' r')⟩
  | _, _, _, 0, @RepEnv.yes _ _ Γ σ fp fo o v r s, _ => ⟨[], fp, fo, rfl, fun y => .no s, fun A' H' k1 k2 o' v' fo' r' => .yes r' (s.stay k1 k2)⟩
  | _, _, _, i + 1, @RepEnv.yes _ _ Γ σ fp fo o v r s, e => by
    obtain ⟨f1, f2, g, h2, h3, h4⟩ := RepEnv.put (i := i) s (by simpa using e)
    refine ⟨fo ++ f1, f2, g, by rw [h2]; simp, fun y => by rw [List.append_assoc]; exact .yes r (h3 y), fun A' H' k1 k2 o'' v'' fo'' r' => ?_⟩
    have q : fo ++ f1 ++ fo'' ++ f2 = fo ++ (f1 ++ fo'' ++ f2) := by simp
    rw [q]
    exact .yes (r.stay k1 fun b u e hb => k2 b u e (by simp [hb])) (h4 A' H' k1 (fun b u e hb => k2 b u e (by
      rw [List.append_assoc]; exact List.mem_append_right _ hb)) o'' v'' fo'' r')
end
/-! ### states and steps -/
/-- what may be owned -/
def Ownable : HO → Prop
  | .lst _ => True
  | .dK _ => True
  | .dT _ => True
  | _ => False
structure SOk (H : Hp) (Γ : Env) (σ : St) (fp rest : List Addr) : Prop where
  env : RepEnv (fp ++ rest) H Γ σ fp
  nd : (fp ++ rest).Nodup
  trk : ∀ a ∈ fp ++ rest, ∃ u, H a = some u ∧ Ownable u
structure Go (fp : List Addr) (H : Hp) (fp' : List Addr) (H' : Hp) : Prop where
  keep : ∀ b u, H b = some u → b ∉ fp → H' b = some u
  new : ∀ b ∈ fp', b ∈ fp ∨ H b = none
theorem Go.refl (fp : List Addr) (H : Hp) : Go fp H fp H := ⟨fun _ _ h _ => h, fun _ h => .inl h⟩
theorem Go.trans {f0 f1 f2 : List Addr} {H0 H1 H2 : Hp} (a : Go f0 H0 f1 H1) (b : Go f1 H1 f2 H2) : Go f0 H0 f2 H2 := by
  refine ⟨fun c u h n => ?_, fun c h => ?_⟩
  · refine b.keep c u (a.keep c u h n) fun q => ?_
    rcases a.new c q with z | z
    · exact n z
    · rw [h] at z; cases z
  · by_cases m : c ∈ f0
    · exact .inl m
    · right
      cases e : H0 c with
      | none => rfl
      | some u =>
        rcases b.new c h with z | z
        · rcases a.new c z with z | z
          · exact absurd z m
          · rw [e] at z; cases z
        · rw [a.keep c u e m] at z; cases z
/-- more may stand beside on both sides -/
theorem Go.frame {f0 f1 : List Addr} {H0 H1 : Hp} (a : Go f0 H0 f1 H1) (g : List Addr) : Go (f0 ++ g) H0 (f1 ++ g) H1 :=
  ⟨fun b u h n => a.keep b u h fun q => n (List.mem_append_left _ q), fun b h => by
    rcases List.mem_append.mp h with h | h
    · rcases a.new b h with z | z
      · exact .inl (List.mem_append_left _ z)
      · exact .inr z
    · exact .inl (List.mem_append_right _ h)⟩
theorem Go.congr {f0 f1 g0 g1 : List Addr} {H0 H1 : Hp} (a : Go f0 H0 f1 H1) (h0 : ∀ b ∈ f0, b ∈ g0) (h1 : ∀ b ∈ g1, b ∈ f1 ∨ b ∈ g0 ∨ H0 b = none) : Go g0 H0 g1 H1 :=
  ⟨fun b u h n => a.keep b u h fun q => n (h0 b q), fun b h => by
    rcases h1 b h with z | z | z
    · rcases a.new b z with y | y
      · exact .inl (h0 b y)
      · exact .inr y
    · exact .inl z
    · exact .inr z⟩
/-- what is shared stands still -/
theorem Go.still {fp fp' rest : List Addr} {H H' : Hp} (g : Go fp H fp' H') : ∀ b u, H b = some u → b ∉ fp ++ rest → H' b = some u ∧ b ∉ fp' ++ rest := fun b u h n => by
  refine ⟨g.keep b u h fun q => n (List.mem_append_left _ q), fun q => ?_⟩
  rcases List.mem_append.mp q with q | q
  · rcases g.new b q with z | z
    · exact n (List.mem_append_left _ z)
    · rw [h] at z; cases z
  · exact n (List.mem_append_right _ q)
theorem Go.repD {fp fp' rest : List Addr} {H H' : Hp} {d : D} {v : V} (g : Go fp H fp' H') (r : RepD (fp ++ rest) H d v) : RepD (fp' ++ rest) H' d v := r.stay g.still
theorem Go.repDs {fp fp' rest : List Addr} {H H' : Hp} {d : List D} {v : List V} (g : Go fp H fp' H') (r : RepDs (fp ++ rest) H d v) : RepDs (fp' ++ rest) H' d v := r.stay g.still
theorem RepD.congr {A A' : List Addr} {H : Hp} {d : D} {v : V} (r : RepD A H d v) (h : ∀ b ∈ A', b ∈ A) : RepD A' H d v := r.stay fun b u e n => ⟨e, fun q => n (h b q)⟩
theorem RepDs.congr {A A' : List Addr} {H : Hp} {d : List D} {v : List V} (r : RepDs A H d v) (h : ∀ b ∈ A', b ∈ A) : RepDs A' H d v := r.stay fun b u e n => ⟨e, fun q => n (h b q)⟩
theorem RepO.congr {A A' : List Addr} {H : Hp} {d : O} {v : V} {f : List Addr} (r : RepO A H d v f) (h : ∀ b ∈ A', b ∈ A) : RepO A' H d v f := r.stay (fun b u e n => ⟨e, fun q => n (h b q)⟩) fun _ _ e _ => e
theorem RepOs.congr {A A' : List Addr} {H : Hp} {d : List O} {v : List V} {f : List Addr} (r : RepOs A H d v f) (h : ∀ b ∈ A', b ∈ A) : RepOs A' H d v f := r.stay (fun b u e n => ⟨e, fun q => n (h b q)⟩) fun _ _ e _ => e
theorem RepEnv.congr {A A' : List Addr} {H : Hp} {d : Env} {v : St} {f : List Addr} (r : RepEnv A H d v f) (h : ∀ b ∈ A', b ∈ A) : RepEnv A' H d v f := r.stay (fun b u e n => ⟨e, fun q => n (h b q)⟩) fun _ _ e _ => e
/-- what is owned elsewhere stands still -/
theorem Go.repO {fp fp' rest fo : List Addr} {H H' : Hp} {o : O} {v : V} (g : Go fp H fp' H') (r : RepO (fp ++ (fo ++ rest)) H o v fo) (nd : (fp ++ (fo ++ rest)).Nodup) : RepO (fp' ++ (fo ++ rest)) H' o v fo :=
  r.stay g.still fun b u e hb => g.keep b u e fun q => by
    have h := (List.nodup_append.mp nd).2.2 b q b (List.mem_append_left _ hb)
    exact h rfl
theorem Go.repOs {fp fp' rest fo : List Addr} {H H' : Hp} {o : List O} {v : List V} (g : Go fp H fp' H') (r : RepOs (fp ++ (fo ++ rest)) H o v fo) (nd : (fp ++ (fo ++ rest)).Nodup) : RepOs (fp' ++ (fo ++ rest)) H' o v fo :=
  r.stay g.still fun b u e hb => g.keep b u e fun q => by
    have h := (List.nodup_append.mp nd).2.2 b q b (List.mem_append_left _ hb)
    exact h rfl
end DS
namespace DS
open PySem PySem.Spec PyProof.Rows L2
/-! ### what a construct tells -/
structure Xn where
  cls : Str
  flds : Option (List (Str × D))
inductive Out (α : Type) where
  | ok (a : α)
  | ex (e : Xn)
abbrev M (α : Type) := Env → Option (Out α × Env)
namespace M
variable {α β : Type}
def pure (a : α) : M α := fun Γ => some (.ok a, Γ)
def bind (x : M α) (f : α → M β) : M β := fun Γ => match x Γ with
  | none => none
  | some (.ex e, Γ1) => some (.ex e, Γ1)
  | some (.ok a, Γ1) => f a Γ1
def fail : M α := fun _ => none
def lift (o : Option α) : M α := fun Γ => match o with
  | none => none
  | some a => some (.ok a, Γ)
def map (f : α → β) (x : M α) : M β := bind x fun a => pure (f a)
@[simp] theorem bind_pure (a : α) (f : α → M β) : bind (pure a) f = f a := rfl
end M
/-! ### what is wished of pieces of syntax -/
section
variable (X : Cx)
def wE (e : Expr) : TE := fun σ H Q => ∀ pins s, Inv X pins σ H s → wpAny (model X.prog X.w) X.A (eval e X.env) (EP X pins σ Q) X.xe s
def wT (e : Expr) : TT := fun σ H Q => ∀ pins s, Inv X pins σ H s → wpAny (model X.prog X.w) X.A (isTrue e X.env (eval e X.env)) (TP X pins σ Q) X.xe s
def wW (e : Expr) : TT := fun σ H Q => ∀ (whole : Sem Value) pins s, Inv X pins σ H s → wpAny (model X.prog X.w) X.A (isTrue e X.env whole) (TP X pins σ Q) X.xe s
def wA (es : List Expr) : TA := fun σ H Q => ∀ (pos : Pos) pins s, Inv X pins σ H s → wpAny (model X.prog X.w) X.A (spliced (backTo pos (starEach es X.env))) (AP X pins σ Q) X.xe s
def wS (st : Stmt) : TS := fun D σ H => ∀ pins s, Inv X pins σ H s → wpAny (model X.prog X.w) X.A (exec st X.env) (SP X pins D) X.xe s
def wSs (st : List Stmt) : TS := fun D σ H => ∀ pins s, Inv X pins σ H s → wpAny (model X.prog X.w) X.A (execs st X.env) (SP X pins D) X.xe s
def wI (tg iter : Expr) : TI := fun σ H R => ∀ pins s, Inv X pins σ H s →
  wpAny (model X.prog X.w) X.A (eval iter X.env) (fun v s1 => wpAny (model X.prog X.w) X.A (pyIter v) (PIE X pins σ tg R) X.xe s1) X.xe s
def wG (tg : Expr) : TG := fun v σ H Q => ∀ pins s u, Inv X pins σ H s → RelV v u → wpAny (model X.prog X.w) X.A (assign tg X.env u) (fun _ s' => ∃ σ' H', Inv X pins σ' H' s' ∧ Q σ' H') X.xe s
end
section
variable {X : Cx}
theorem pe_w {e : Expr} : PE X e (wE X e) := ⟨fun pins s σ H Q I h => h pins s I⟩
theorem pt_w {e : Expr} : PT X e (wT X e) := ⟨fun pins s σ H Q I h => h pins s I⟩
theorem pw_w {e : Expr} : PW X e (wW X e) := ⟨fun wh pins s σ H Q I h => h wh pins s I⟩
theorem pa_w {e : List Expr} : PA X e (wA X e) := ⟨fun pos pins s σ H Q I h => h pos pins s I⟩
theorem ps_w {e : Stmt} : PS X e (wS X e) := ⟨fun pins s σ H D I h => h pins s I⟩
theorem pss_w {e : List Stmt} : PSs X e (wSs X e) := ⟨fun pins s σ H D I h => h pins s I⟩
theorem pi_w {tg e : Expr} : PI X tg e (wI X tg e) := ⟨fun pins s σ H R I h => h pins s I⟩
theorem pg_w {tg : Expr} : PG X tg (wG X tg) := ⟨fun pins s σ H v u Q I r h => h pins s u I r⟩
theorem we {e : Expr} {t : TE} (h : PE X e t) {σ : St} {H : Hp} {Q : VK} (q : t σ H Q) : wE X e σ H Q := fun pins s I => h.run pins s σ H Q I q
theorem wt {e : Expr} {t : TT} (h : PT X e t) {σ : St} {H : Hp} {Q : Bool → Hp → Prop} (q : t σ H Q) : wT X e σ H Q := fun pins s I => h.run pins s σ H Q I q
theorem ww {e : Expr} {t : TT} (h : PW X e t) {σ : St} {H : Hp} {Q : Bool → Hp → Prop} (q : t σ H Q) : wW X e σ H Q := fun wh pins s I => h.run wh pins s σ H Q I q
theorem wa {e : List Expr} {t : TA} (h : PA X e t) {σ : St} {H : Hp} {Q : List V → Hp → Prop} (q : t σ H Q) : wA X e σ H Q := fun pos pins s I => h.run pos pins s σ H Q I q
theorem ws {e : Stmt} {t : TS} (h : PS X e t) {σ : St} {H : Hp} {D : Ends} (q : t D σ H) : wS X e D σ H := fun pins s I => h.run pins s σ H D I q
theorem wss {e : List Stmt} {t : TS} (h : PSs X e t) {σ : St} {H : Hp} {D : Ends} (q : t D σ H) : wSs X e D σ H := fun pins s I => h.run pins s σ H D I q
theorem wi {tg e : Expr} {t : TI} (h : PI X tg e t) {σ : St} {H : Hp} {R : It → Hp → Prop} (q : t σ H R) : wI X tg e σ H R := fun pins s I => h.run pins s σ H R I q
theorem wg {tg : Expr} {t : TG} (h : PG X tg t) {v : V} {σ : St} {H : Hp} {Q : St → Hp → Prop} (q : t v σ H Q) : wG X tg v σ H Q := fun pins s u I r => h.run pins s σ H v u Q I r q
end
/-! ### an exception told -/
def XRep (X : Cx) (A : List Addr) (H : Hp) (ε : Xn) (cls : Value) (d : Option Addr) : Prop :=
  (∃ C, X.mg ε.cls = some (.ref C) ∧ cls = .ref C) ∧
    match ε.flds with
    | none => d = none
    | some fs => ∃ dd vs, d = some dd ∧ dd ∉ A ∧ H dd = some (.xd ((fs.map (·.1)).zip vs)) ∧ RepDs A H (fs.map (·.2)) vs
/-! ### the judgements -/
abbrev Rp (α β : Type) := List Addr → Hp → α → β → List Addr → Prop
def Wp {α β : Type} (X : Cx) (W : WX) (fp rest : List Addr) (H : Hp) (σ : St) (rep : Rp α β) (r : Option (Out α × Env)) (Q : β → Hp → Prop) : Prop :=
  match r with
  | none => False
  | some (.ok a, Γ') => ∀ v H' fo fp', SOk H' Γ' σ fp' (fo ++ rest) → rep (fp' ++ (fo ++ rest)) H' a v fo → Go fp H (fo ++ fp') H' → Q v H'
  | some (.ex ε, Γ') => ∀ cls d H' fp', SOk H' Γ' σ fp' rest → XRep X (fp' ++ rest) H' ε cls d → Go fp H fp' H' → W cls d σ H'
structure Jd {α β : Type} (X : Cx) (w : St → Hp → (β → Hp → Prop) → Prop) (rep : Rp α β) (f : M α) : Prop where
  run : ∀ W, Takes X W → ∀ σ H Γ fp rest Q, SOk H Γ σ fp rest → Wp X W fp rest H σ rep (f Γ) Q → w σ H Q
def repX : Rp D V := fun A H d v fo => fo = [] ∧ RepD A H d v
def repXs : Rp (List D) (List V) := fun A H d v fo => fo = [] ∧ RepDs A H d v
def repB : Rp Bool Bool := fun _ _ b c fo => fo = [] ∧ b = c
def repOp : Rp (Option Int) (Option Int) := fun _ _ b c fo => fo = [] ∧ b = c
abbrev DX (X : Cx) (e : Expr) (f : M D) : Prop := Jd X (wE X e) repX f
abbrev DE (X : Cx) (e : Expr) (f : M O) : Prop := Jd X (wE X e) RepO f
abbrev DT (X : Cx) (e : Expr) (f : M Bool) : Prop := Jd X (wT X e) repB f
abbrev DW (X : Cx) (e : Expr) (f : M Bool) : Prop := Jd X (wW X e) repB f
abbrev DA (X : Cx) (es : List Expr) (f : M (List D)) : Prop := Jd X (wA X es) repXs f
abbrev DAO (X : Cx) (es : List Expr) (f : M (List O)) : Prop := Jd X (wA X es) RepOs f
theorem SOk.swap {H : Hp} {Γ : Env} {σ : St} {fp fo rest : List Addr} (S : SOk H Γ σ fp (fo ++ rest)) : (fo ++ fp ++ rest).Nodup ∧ (∀ b, b ∈ fo ++ fp ++ rest ↔ b ∈ fp ++ (fo ++ rest)) := by
  have p : (fo ++ fp ++ rest).Perm (fp ++ (fo ++ rest)) := by
    rw [← List.append_assoc]
    exact List.Perm.append_right rest List.perm_append_comm
  exact ⟨p.nodup_iff.mpr S.nd, fun b => p.mem_iff⟩
theorem Wp.rebase {α β : Type} {X : Cx} {W : WX} {f0 f1 rest : List Addr} {H H1 : Hp} {σ : St} {rep : Rp α β} {r : Option (Out α × Env)} {Q : β → Hp → Prop} (g : Go f0 H f1 H1) (h : Wp X W f0 rest H σ rep r Q) : Wp X W f1 rest H1 σ rep r Q := by
  match r, h with
  | some (.ok a, Γ'), h => exact fun v H' fo fp' S R G => h v H' fo fp' S R (g.trans G)
  | some (.ex ε, Γ'), h => exact fun c d H' fp' S R G => h c d H' fp' S R (g.trans G)
/-- one piece, then what follows -/
theorem Jd.thn {α β γ δ : Type} {X : Cx} {w1 : St → Hp → (β → Hp → Prop) → Prop} {rep1 : Rp α β} {rep : Rp γ δ} {f : M α} {g : α → M γ} (h1 : Jd X w1 rep1 f) {W : WX} (tk : Takes X W)
    {σ : St} {H : Hp} {Γ : Env} {fp rest : List Addr} {Q : δ → Hp → Prop} {Q1 : β → Hp → Prop} (S : SOk H Γ σ fp rest) (hW : Wp X W fp rest H σ rep (M.bind f g Γ) Q)
    (next : ∀ a Γ1 v H1 fo fp1, SOk H1 Γ1 σ fp1 (fo ++ rest) → rep1 (fp1 ++ (fo ++ rest)) H1 a v fo → Go fp H (fo ++ fp1) H1 → Wp X W (fo ++ fp1) rest H1 σ rep (g a Γ1) Q → Q1 v H1) : w1 σ H Q1 := by
  refine h1.run W tk σ H Γ fp rest Q1 S ?_
  unfold M.bind at hW
  cases e : f Γ with
  | none => rw [e] at hW; exact hW.elim
  | some r =>
    obtain ⟨r, Γ1⟩ := r
    rw [e] at hW
    cases r with
    | ok a => exact fun v H' fo fp' S' R G => next a Γ1 v H' fo fp' S' R G (hW.rebase G)
    | ex ε => exact hW
/-- the end of a reading: something pure of shared things -/
theorem Wp.done {β : Type} {α : Type} {X : Cx} {W : WX} {fp rest : List Addr} {H : Hp} {σ : St} {rep : Rp α β} {a : α} {Γ : Env} {Q : β → Hp → Prop} (h : Wp X W fp rest H σ rep (M.pure a Γ) Q)
    {v : β} {H' : Hp} {fo fp' : List Addr} (S : SOk H' Γ σ fp' (fo ++ rest)) (r : rep (fp' ++ (fo ++ rest)) H' a v fo) (g : Go fp H (fo ++ fp') H') : Q v H' := h v H' fo fp' S r g
theorem Wp.lift {β : Type} {α γ : Type} {X : Cx} {W : WX} {fp rest : List Addr} {H : Hp} {σ : St} {rep : Rp α β} {o : Option γ} {g : γ → M α} {Γ : Env} {Q : β → Hp → Prop} (h : Wp X W fp rest H σ rep (M.bind (M.lift o) g Γ) Q) :
    ∃ a, o = some a ∧ Wp X W fp rest H σ rep (g a Γ) Q := by
  cases o with
  | none => exact h.elim
  | some a => exact ⟨a, rfl, h⟩
theorem Wp.lift1 {β : Type} {α : Type} {X : Cx} {W : WX} {fp rest : List Addr} {H : Hp} {σ : St} {rep : Rp α β} {o : Option α} {Γ : Env} {Q : β → Hp → Prop} (h : Wp X W fp rest H σ rep (M.lift o Γ) Q) :
    ∃ a, o = some a ∧ Wp X W fp rest H σ rep (M.pure a Γ) Q := by
  cases o with
  | none => exact h.elim
  | some a => exact ⟨a, rfl, h⟩
/-- a new shared or untracked object changes no state -/
theorem SOk.grow {H H' : Hp} {Γ : Env} {σ : St} {fp rest : List Addr} (S : SOk H Γ σ fp rest) (k : ∀ b u, H b = some u → H' b = some u) : SOk H' Γ σ fp rest := by
  refine ⟨S.env.stay (fun b u e n => ⟨k b u e, n⟩) fun b u e _ => k b u e, S.nd, fun a h => ?_⟩
  obtain ⟨u, e, o⟩ := S.trk a h
  exact ⟨u, k a u e, o⟩
theorem Go.grow {H H' : Hp} (k : ∀ b u, H b = some u → H' b = some u) (fp : List Addr) : Go fp H fp H' := ⟨fun b u e _ => k b u e, fun _ h => .inl h⟩
theorem grow_upd {H : Hp} {p : Addr} {o : HO} (h : H p = none) : ∀ b u, H b = some u → upd H p o b = some u := fun b u e => by
  rw [upd_ne (ne_of_none e h)]; exact e
/-- a new address is none of the owned ones -/
theorem SOk.fresh {H : Hp} {Γ : Env} {σ : St} {fp rest : List Addr} (S : SOk H Γ σ fp rest) {p : Addr} (h : H p = none) : p ∉ fp ++ rest := fun m => by
  obtain ⟨u, e, _⟩ := S.trk p m
  rw [h] at e; cases e
/-! ### shared from owned, owned from shared -/
theorem SOk.drop {H : Hp} {Γ : Env} {σ : St} {fp fo rest : List Addr} (S : SOk H Γ σ fp (fo ++ rest)) : SOk H Γ σ fp rest := by
  have sub : ∀ b ∈ fp ++ rest, b ∈ fp ++ (fo ++ rest) := fun b h => by
    rcases List.mem_append.mp h with h | h
    · exact List.mem_append_left _ h
    · exact List.mem_append_right _ (List.mem_append_right _ h)
  exact ⟨S.env.congr sub, S.nd.sublist (List.Sublist.append (List.Sublist.refl _) (List.sublist_append_right _ _)), fun a h => S.trk a (sub a h)⟩
theorem freeze_pending {H : Hp} {Γ : Env} {σ : St} {fp fo rest : List Addr} {o : O} {v : V} (S : SOk H Γ σ fp (fo ++ rest)) (r : RepO (fp ++ (fo ++ rest)) H o v fo) : RepD (fp ++ rest) H o.erase v := by
  refine r.froze fun b h => ⟨?_, fun q => ?_⟩
  · rcases List.mem_append.mp h with h | h
    · exact List.mem_append_left _ h
    · exact List.mem_append_right _ (List.mem_append_right _ h)
  · have nd := S.nd
    rcases List.mem_append.mp h with h | h
    · exact (List.nodup_append.mp nd).2.2 b h b (List.mem_append_left _ q) rfl
    · exact (List.nodup_append.mp (List.nodup_append.mp nd).2.1).2.2 b q b h rfl
theorem DE.froze {X : Cx} {e : Expr} {f : M O} (h : DE X e f) : DX X e (M.map O.erase f) := by
  refine ⟨fun W tk σ H Γ fp rest Q S hW => ?_⟩
  refine h.thn tk S hW fun a Γ1 v H1 fo fp1 S1 R G hW1 => ?_
  refine hW1.done (fo := []) S1.drop ⟨rfl, freeze_pending S1 R⟩ ⟨fun b u e _ => e, fun b m => ?_⟩
  exact .inl (List.mem_append_right _ m)
theorem DX.o {X : Cx} {e : Expr} {f : M D} (h : DX X e f) : DE X e (M.map O.sh f) := by
  refine ⟨fun W tk σ H Γ fp rest Q S hW => ?_⟩
  refine h.thn tk S hW fun a Γ1 v H1 fo fp1 S1 R G hW1 => ?_
  obtain ⟨rfl, R⟩ := R
  exact hW1.done (fo := []) S1 (.sh R) (Go.refl _ _)
end DS
namespace DS
open PySem PySem.Spec PyProof.Rows L2
/-! ### data as the library reads it -/
mutual
/-- no dict within, not deeper than n -/
def fit : Nat → D → Bool
  | _, .none => true
  | _, .bool _ => true
  | _, .int _ => true
  | _, .str _ => true
  | n, .list xs => fitAll n xs
  | n, .tuple xs => fitAll n xs
  | _, .dict _ => false
def fitAll : Nat → List D → Bool
  | _, [] => true
  | 0, _ :: _ => false
  | n + 1, x :: xs => fit n x && fitAll (n + 1) xs
end
theorem fitAll_mem {n : Nat} : ∀ {xs : List D}, (∀ x ∈ xs, fit n x = true) → fitAll (n + 1) xs = true
  | [], _ => by rw [fitAll]
  | x :: xs, h => by rw [fitAll, h x List.mem_cons_self, fitAll_mem fun y m => h y (List.mem_cons_of_mem _ m)]; rfl
mutual
theorem fit_plain : ∀ (n : Nat) (d : D), fit n d = true → d.plain = true ∧ d.depth ≤ n + 1
  | _, .none, _ => ⟨rfl, by simp [PyData.depth]⟩
  | _, .bool _, _ => ⟨rfl, by simp [PyData.depth]⟩
  | _, .int _, _ => ⟨rfl, by simp [PyData.depth]⟩
  | _, .str _, _ => ⟨rfl, by simp [PyData.depth]⟩
  | n, .list xs, h => by
    rw [fit] at h
    have := fitAll_plain n xs h
    exact ⟨by simp only [PyData.plain]; exact this.1, by simp only [PyData.depth]; omega⟩
  | n, .tuple xs, h => by
    rw [fit] at h
    have := fitAll_plain n xs h
    exact ⟨by simp only [PyData.plain]; exact this.1, by simp only [PyData.depth]; omega⟩
  | _, .dict _, h => by rw [fit] at h; cases h
theorem fitAll_plain : ∀ (n : Nat) (xs : List D), fitAll n xs = true → PyData.plainAll xs = true ∧ PyData.depthAll xs ≤ n
  | n, [], _ => ⟨by simp [PyData.plainAll], by simp [PyData.depthAll]⟩
  | 0, _ :: _, h => by rw [fitAll] at h; cases h
  | n + 1, x :: xs, h => by
    rw [fitAll, Bool.and_eq_true] at h
    have h1 := fit_plain n x h.1
    have h2 := fitAll_plain (n + 1) xs h.2
    refine ⟨by simp only [PyData.plainAll, h1.1, h2.1, Bool.and_self], ?_⟩
    simp only [PyData.depthAll]
    omega
end
section
variable {X : Cx} {pins : List (Addr × Obj)} {σ : St} {H : Hp} {s : Shared} {A : List Addr}
mutual
theorem reads_of (I : Inv X pins σ H s) : ∀ (d : D) (v : V) (u : Value), d.plain = true → RepD A H d v → RelV v u → ∃ as, Reads s.heap u d as
  | .none, _, _, _, .non, r => by cases r; exact ⟨_, .none⟩
  | .bool b, _, _, _, .bl _, r => by cases r; exact ⟨_, .bool b⟩
  | .int i, _, _, _, .int _, r => by obtain ⟨t, rfl⟩ := r; exact ⟨_, .int i t⟩
  | .str x, _, _, _, .str _, r => by obtain ⟨t, rfl⟩ := r; exact ⟨_, .str x t⟩
  | .list ds, _, _, p, .lst n rd rs, r => by
    cases r
    obtain ⟨z, its, m, rv, e⟩ := rd.ok I.hok
    obtain ⟨as, q⟩ := readsAll_of I ds _ its (by simpa [PyData.plain] using p) rs rv
    exact ⟨_, .list e rfl rfl (by simpa using q)⟩
  | .tuple ds, _, _, p, .tup n rd rs, r => by
    cases r
    obtain ⟨z, its, rv, ob, e, c, m, dd⟩ := I.hok _ _ rd
    obtain ⟨as, q⟩ := readsAll_of I ds _ its (by simpa [PyData.plain] using p) rs rv
    exact ⟨_, .tuple e c dd (by simpa using q)⟩
  | .dict _, _, _, p, _, _ => by simp [PyData.plain] at p
theorem readsAll_of (I : Inv X pins σ H s) : ∀ (ds : List D) (vs : List V) (us : List Value), PyData.plainAll ds = true → RepDs A H ds vs → Vals vs us → ∃ as, ReadsAll s.heap us ds as
  | [], _, _, _, .nil, .nil => ⟨_, .nil⟩
  | d :: ds, _, _, p, .cons r rs, .cons q qs => by
    rw [PyData.plainAll, Bool.and_eq_true] at p
    obtain ⟨as, h⟩ := reads_of I d _ _ p.1 r q
    obtain ⟨bs, k⟩ := readsAll_of I ds _ _ p.2 rs qs
    exact ⟨_, .cons h k⟩
end
end
/-! ### operations on data -/
/-- an operation on two values, told of data -/
def rDD (g : D → D → Option D) : R2 := fun x y H Q => ∃ A dx dy d, RepD A H dx x ∧ RepD A H dy y ∧ g dx dy = some d ∧ (∀ b, H b = none → b ∉ A) ∧ ∀ v H', (∀ b u, H b = some u → H' b = some u) → RepD A H' d v → Q v H'
def OpD (X : Cx) (f : Value → Value → Sem Value) (g : D → D → Option D) : Prop := OpR X f (rDD g)
section
variable {X : Cx} {a b c : Expr} {f1 f2 f3 : M D} {pos : Pos}
/-- the end of an operation that makes shared things alone -/
theorem fin_shared {W : WX} {fp rest : List Addr} {H2 : Hp} {σ : St} {Γ : Env} {Q : VK} {d : D} (S : SOk H2 Γ σ fp rest) (h : Wp X W fp rest H2 σ repX (M.pure d Γ) Q) :
    ∀ v H', (∀ b u, H2 b = some u → H' b = some u) → RepD (fp ++ rest) H' d v → Q v H' := fun v H' k r => h.done (fo := []) (S.grow k) ⟨rfl, r⟩ (Go.grow k fp)
theorem dx_2 {w : St → Hp → VK → Prop} {f : Value → Value → Sem Value} {g : D → D → Option D} (ho : OpD X f g) (h1 : DX X a f1) (h2 : DX X b f2)
    (hw : ∀ σ H Q, wE X a σ H (fun x H1 => wE X b σ H1 (fun y H2 => rDD g x y H2 Q)) → w σ H Q) : Jd X w repX (M.bind f1 fun x => M.bind f2 fun y => M.lift (g x y)) := by
  refine ⟨fun W tk σ H Γ fp rest Q S hW => hw σ H Q ?_⟩
  refine h1.thn tk S hW fun dx Γ1 x H1 fo fp1 S1 R1 G1 hW1 => ?_
  obtain ⟨rfl, R1⟩ := R1
  refine h2.thn tk S1 hW1 fun dy Γ2 y H2 fo fp2 S2 R2 G2 hW2 => ?_
  obtain ⟨rfl, R2⟩ := R2
  obtain ⟨d, e, hW2⟩ := hW2.lift1
  exact ⟨fp2 ++ rest, dx, dy, d, G2.repD R1, R2, e, fun b hb => S2.fresh hb, fin_shared S2 hW2⟩
theorem dx_bin {op : Operator} {g : D → D → Option D} (ho : OpD X (binaryOp op) g) (h1 : DX X a f1) (h2 : DX X b f2) : DX X (.BinOp a op b pos) (M.bind f1 fun x => M.bind f2 fun y => M.lift (g x y)) :=
  dx_2 ho h1 h2 fun σ H Q q => we (pe_op ho pe_w pe_w) q
theorem dx_cmp {op : CmpOp} {g : D → D → Option D} (ho : OpD X (compareOp op) g) (h1 : DX X a f1) (h2 : DX X b f2) (hm : behindInMarks op b = false := by first | rfl | exact nomark _ | with_unfolding_all rfl) :
    DX X (.Compare a [op] [b] pos) (M.bind f1 fun x => M.bind f2 fun y => M.lift (g x y)) :=
  dx_2 ho h1 h2 fun σ H Q q => we (pe_cmpR ho pe_w pe_w hm) q
def asB : D → Option Bool
  | .bool b => some b
  | _ => none
/-- a test by a value that is a truth -/
theorem dt_of {w : St → Hp → (Bool → Hp → Prop) → Prop} {f : M D} (h : DX X a f) (hw : ∀ σ H Q, wE X a σ H (fun x H1 => ∃ c, x = .bl c ∧ Q c H1) → w σ H Q) : Jd X w repB (M.bind f fun d => M.lift (asB d)) := by
  refine ⟨fun W tk σ H Γ fp rest Q S hW => hw σ H Q ?_⟩
  refine h.thn tk S hW fun dx Γ1 x H1 fo fp1 S1 R1 G1 hW1 => ?_
  obtain ⟨rfl, R1⟩ := R1
  obtain ⟨c, e, hW1⟩ := hW1.lift1
  cases dx <;> simp [asB] at e
  subst e
  cases R1
  exact ⟨_, rfl, hW1.done (fo := []) S1 ⟨rfl, rfl⟩ (Go.refl _ _)⟩
theorem dt_val {f : M D} (h : DX X a f) (he : ∀ whole, isTrue a X.env whole = (do let v ← whole; standAt a.pos; holding [v] (truthy v)) := by intro _; rfl) : DT X a (M.bind f fun d => M.lift (asB d)) :=
  dt_of h fun σ H Q q => wt (pt_val pe_w he) q
theorem dt_cmp {op : CmpOp} {g : D → D → Option D} (ho : OpD X (compareOp op) g) (h1 : DX X a f1) (h2 : DX X b f2) (hm : behindInMarks op b = false := by first | rfl | exact nomark _ | with_unfolding_all rfl) :
    DT X (.Compare a [op] [b] pos) (M.bind f1 fun x => M.bind f2 fun y => M.lift ((g x y).bind asB)) := by
  refine ⟨fun W tk σ H Γ fp rest Q S hW => wt (pt_cmpR ho pe_w pe_w hm) ?_⟩
  refine h1.thn tk S hW fun dx Γ1 x H1 fo fp1 S1 R1 G1 hW1 => ?_
  obtain ⟨rfl, R1⟩ := R1
  refine h2.thn tk S1 hW1 fun dy Γ2 y H2 fo fp2 S2 R2 G2 hW2 => ?_
  obtain ⟨rfl, R2⟩ := R2
  obtain ⟨c, e, hW2⟩ := hW2.lift1
  obtain ⟨d, e1, e2⟩ := Option.bind_eq_some_iff.mp e
  refine ⟨fp2 ++ rest, dx, dy, d, G2.repD R1, R2, e1, fun b hb => S2.fresh hb, fun v H' k r => ?_⟩
  cases d <;> simp [asB] at e2
  subst e2
  cases r
  exact ⟨_, rfl, hW2.done (fo := []) (S2.grow k) ⟨rfl, rfl⟩ (Go.grow k fp2)⟩
/-- a < b < c -/
def chainM (f1 f2 f3 : M D) (g g' : D → D → Option D) : M D := M.bind f1 fun x => M.bind f2 fun y => M.bind (M.lift ((g x y).bind asB)) fun k => match k with
  | true => M.bind f3 fun z => M.lift (g' y z)
  | false => M.pure (.bool false)
theorem dx_chain {op op' : CmpOp} {g g' : D → D → Option D} (ho : OpD X (compareOp op) g) (ho' : OpD X (compareOp op') g') (h1 : DX X a f1) (h2 : DX X b f2) (h3 : DX X c f3)
    (hm : lastMarks [op, op'] [b, c] = false := by with_unfolding_all rfl) : DX X (.Compare a [op, op'] [b, c] pos) (chainM f1 f2 f3 g g') := by
  refine ⟨fun W tk σ H Γ fp rest Q S hW => we (pe_chain ho ho' pe_w pe_w pe_w hm) ?_⟩
  refine h1.thn tk S hW fun dx Γ1 x H1 fo fp1 S1 R1 G1 hW1 => ?_
  obtain ⟨rfl, R1⟩ := R1
  refine h2.thn tk S1 hW1 fun dy Γ2 y H2 fo fp2 S2 R2 G2 hW2 => ?_
  obtain ⟨rfl, R2⟩ := R2
  obtain ⟨k, e, hW2⟩ := hW2.lift
  obtain ⟨d, e1, e2⟩ := Option.bind_eq_some_iff.mp e
  refine ⟨fp2 ++ rest, dx, dy, d, G2.repD R1, R2, e1, fun b hb => S2.fresh hb, fun v H' kk r => ?_⟩
  cases d <;> simp [asB] at e2
  subst e2
  rename_i k
  cases r
  have S3 := S2.grow kk
  have R2' : RepD (fp2 ++ rest) H' dy y := R2.stay fun b u e n => ⟨kk b u e, n⟩
  have hW3 := hW2.rebase (Go.grow kk fp2)
  refine ⟨_, rfl, ?_⟩
  cases k with
  | false => exact hW3.done (fo := []) S3 ⟨rfl, .bl false⟩ (Go.refl _ _)
  | true =>
    refine h3.thn tk S3 hW3 fun dz Γ3 z H4 fo fp3 S4 R4 G4 hW4 => ?_
    obtain ⟨rfl, R4⟩ := R4
    obtain ⟨d, e, hW4⟩ := hW4.lift1
    exact ⟨fp3 ++ rest, dy, dz, d, G4.repD R2', R4, e, fun b hb => S4.fresh hb, fin_shared S4 hW4⟩
theorem dt_chain {op op' : CmpOp} {g g' : D → D → Option D} (ho : OpD X (compareOp op) g) (ho' : OpD X (compareOp op') g') (h1 : DX X a f1) (h2 : DX X b f2) (h3 : DX X c f3)
    (hm : lastMarks [op, op'] [b, c] = false := by with_unfolding_all rfl) : DT X (.Compare a [op, op'] [b, c] pos) (M.bind (chainM f1 f2 f3 g g') fun d => M.lift (asB d)) := by
  have hd := dx_chain (pos := pos) ho ho' h1 h2 h3 hm
  refine ⟨fun W tk σ H Γ fp rest Q S hW => wt (pt_chain ho ho' pe_w pe_w pe_w hm) ?_⟩
  unfold chainM at hW
  have assoc : ∀ {α β γ : Type} (x : M α) (f : α → M β) (g : β → M γ), M.bind (M.bind x f) g = M.bind x fun a => M.bind (f a) g := fun x f g => by
    funext Γ
    unfold M.bind
    cases x Γ with
    | none => rfl
    | some r => obtain ⟨r, Γ'⟩ := r; cases r <;> rfl
  rw [assoc] at hW
  refine h1.thn tk S hW fun dx Γ1 x H1 fo fp1 S1 R1 G1 hW1 => ?_
  obtain ⟨rfl, R1⟩ := R1
  rw [assoc] at hW1
  refine h2.thn tk S1 hW1 fun dy Γ2 y H2 fo fp2 S2 R2 G2 hW2 => ?_
  obtain ⟨rfl, R2⟩ := R2
  rw [assoc] at hW2
  obtain ⟨k, e, hW2⟩ := hW2.lift
  obtain ⟨d, e1, e2⟩ := Option.bind_eq_some_iff.mp e
  refine ⟨fp2 ++ rest, dx, dy, d, G2.repD R1, R2, e1, fun b hb => S2.fresh hb, fun v H' kk r => ?_⟩
  cases d <;> simp [asB] at e2
  subst e2
  rename_i k
  cases r
  have S3 := S2.grow kk
  have R2' : RepD (fp2 ++ rest) H' dy y := R2.stay fun b u e n => ⟨kk b u e, n⟩
  have hW3 := hW2.rebase (Go.grow kk fp2)
  refine ⟨_, rfl, ?_⟩
  cases k with
  | false => exact ⟨_, rfl, Wp.done (a := false) (fo := []) hW3 S3 ⟨rfl, rfl⟩ (Go.refl _ _)⟩
  | true =>
    have hW3 : Wp X W ([] ++ fp2) rest H' σ repB (M.bind (M.bind f3 fun z => M.lift (g' dy z)) (fun d => M.lift (asB d)) Γ2) Q := hW3
    rw [assoc] at hW3
    refine h3.thn tk S3 hW3 fun dz Γ3 z H4 fo fp3 S4 R4 G4 hW4 => ?_
    obtain ⟨rfl, R4⟩ := R4
    obtain ⟨d, e, hW4⟩ := hW4.lift
    obtain ⟨c, e', hW4⟩ := hW4.lift1
    refine ⟨fp3 ++ rest, dy, dz, d, G4.repD R2', R4, e, fun b hb => S4.fresh hb, fun v H5 k5 r5 => ?_⟩
    cases d <;> simp [asB] at e'
    subst e'
    cases r5
    exact ⟨_, rfl, hW4.done (fo := []) (S4.grow k5) ⟨rfl, rfl⟩ (Go.grow k5 fp3)⟩
end
/-! ### the operations -/
def mulOk (i j : Int) : Bool := decide (-(2 ^ 64) < i ∧ i < 2 ^ 64) || decide (-(2 ^ 64) < j ∧ j < 2 ^ 64) || decide (i.natAbs.log2 + j.natAbs.log2 < 1000000)
noncomputable def dAdd : D → D → Option D
  | .int i, .int j => some (.int (i + j))
  | .str x, .str y => @ite _ (x.length + y.length ≤ 16777216) (Classical.propDecidable _) (some (.str (x ++ y))) none
  | .list xs, .list ys => @ite _ (xs.length + ys.length ≤ 16777216) (Classical.propDecidable _) (some (.list (xs ++ ys))) none
  | .tuple xs, .tuple ys => @ite _ (xs.length + ys.length ≤ 16777216 ∧ xs ≠ []) (Classical.propDecidable _) (some (.tuple (xs ++ ys))) none
  | _, _ => none
def dSub : D → D → Option D
  | .int i, .int j => some (.int (i - j))
  | _, _ => none
noncomputable def dMul : D → D → Option D
  | .int i, .int j => @ite _ (mulOk i j = true) (Classical.propDecidable _) (some (.int (i * j))) none
  | .list xs, .int k => @ite _ (k < 2 ^ 62 ∧ -(2 ^ 62) < k ∧ xs.length * k.toNat ≤ 16777216) (Classical.propDecidable _) (some (.list (List.replicate k.toNat xs).flatten)) none
  | _, _ => none
noncomputable def dDiv : D → D → Option D
  | .int i, .int j => @ite _ (0 < j ∧ (j < 1073741824 ∨ j.natAbs.log2 < 9000)) (Classical.propDecidable _) (some (.int (i / j))) none
  | _, _ => none
noncomputable def dMod : D → D → Option D
  | .int i, .int j => @ite _ (0 < j) (Classical.propDecidable _) (some (.int (i % j))) none
  | _, _ => none
noncomputable def dPow : D → D → Option D
  | .int i, .int j => @ite _ (0 ≤ j ∧ j ≤ 1000000 ∧ i.natAbs < 2 ^ 64) (Classical.propDecidable _) (some (.int (i ^ j.toNat))) none
  | _, _ => none
noncomputable def dShl : D → D → Option D
  | .int i, .int j => @ite _ (0 ≤ j ∧ j ≤ 1000000 ∧ i.natAbs < 2 ^ 64) (Classical.propDecidable _) (some (.int (i * 2 ^ j.toNat))) none
  | _, _ => none
noncomputable def dShr : D → D → Option D
  | .int i, .int j => @ite _ (0 ≤ j) (Classical.propDecidable _) (some (.int (i / 2 ^ j.toNat))) none
  | _, _ => none
def dAnd : D → D → Option D
  | .int i, .int j => some (.int (Builtin.bitAnd i j))
  | _, _ => none
noncomputable def dEq (a b : D) : Option D := @ite _ (fit 12 a = true ∧ fit 12 b = true) (Classical.propDecidable _) (some (.bool (PyData.eqv a b))) none
noncomputable def dNe (a b : D) : Option D := @ite _ (fit 12 a = true ∧ fit 12 b = true) (Classical.propDecidable _) (some (.bool (!PyData.eqv a b))) none
def ordOk (a b : D) : Bool := fit 12 a && fit 12 b && PySem.W.alike a b && (match a with | .none => false | _ => true)
noncomputable def dLt (a b : D) : Option D := @ite _ (ordOk a b = true) (Classical.propDecidable _) (some (.bool (PySem.W.dataLt a b))) none
noncomputable def dGt (a b : D) : Option D := @ite _ (ordOk a b = true) (Classical.propDecidable _) (some (.bool (PySem.W.dataLt b a))) none
noncomputable def dLe (a b : D) : Option D := @ite _ (ordOk a b = true) (Classical.propDecidable _) (some (.bool (!PySem.W.dataLt b a))) none
noncomputable def dGe (a b : D) : Option D := @ite _ (ordOk a b = true) (Classical.propDecidable _) (some (.bool (!PySem.W.dataLt a b))) none
/-- is, is not: where one is None, a truth -/
def dIs : D → D → Option D
  | .none, .none => some (.bool true)
  | .bool a, .bool b => some (.bool (a == b))
  | .none, _ => some (.bool false)
  | _, .none => some (.bool false)
  | .bool _, _ => some (.bool false)
  | _, .bool _ => some (.bool false)
  | _, _ => none
def dNot : D → Option D
  | .bool b => some (.bool !b)
  | _ => none
def dIsNot (a b : D) : Option D := (dIs a b).bind dNot
noncomputable def dIn : D → D → Option D
  | d, .list xs => @ite _ (fit 12 d = true ∧ fitAll 12 xs = true) (Classical.propDecidable _) (some (.bool (xs.any fun y => PyData.eqv y d))) none
  | d, .tuple xs => @ite _ (fit 12 d = true ∧ fitAll 12 xs = true) (Classical.propDecidable _) (some (.bool (xs.any fun y => PyData.eqv y d))) none
  | .str x, .str y => some (.bool (!(Builtin.Str.occurrences y x 0 y.length 1).isEmpty))
  | _, _ => none
noncomputable def dNotIn (a b : D) : Option D := (dIn a b).bind dNot
theorem sizeLine_le {n : Nat} : n ≤ 16777216 ↔ n ≤ sizeLine := by rw [sizeLine_eq]
section
variable {X : Cx}
theorem Inv.seqL {pins : List (Addr × Obj)} {σ : St} {H : Hp} {s : Shared} {a : Addr} {xs : List V} (I : Inv X pins σ H s) (h : Rd H a (.lst xs)) :
    xs.length ≤ sizeLine ∧ ∃ (its : List Value) (n : Nat), Vals xs its ∧ s.heap.get? a = some { cls := .type "list", data := .seq its.toArray n } := h.ok I.hok
theorem fin_new {A : List Addr} {H : Hp} {Q : VK} {ds : List D} {xs : List V} (rs : RepDs A H ds xs) (na : ∀ b, H b = none → b ∉ A) (q : ∀ v H', (∀ b u, H b = some u → H' b = some u) → RepD A H' (.list ds) v → Q v H') :
    ∀ p, H p = none → Q (.ref p) (upd H p (.lst xs)) := fun p hp =>
  q _ _ (grow_upd hp) (.lst (na p hp) (.inl upd_same) (rs.stay fun b u e n => ⟨grow_upd hp b u e, n⟩))
theorem fin_newT {A : List Addr} {H : Hp} {Q : VK} {ds : List D} {xs : List V} (rs : RepDs A H ds xs) (na : ∀ b, H b = none → b ∉ A) (q : ∀ v H', (∀ b u, H b = some u → H' b = some u) → RepD A H' (.tuple ds) v → Q v H') :
    ∀ p, H p = none → Q (.ref p) (upd H p (.tup xs)) := fun p hp =>
  q _ _ (grow_upd hp) (.tup (na p hp) upd_same (rs.stay fun b u e n => ⟨grow_upd hp b u e, n⟩))
theorem od_add : OpD X (binaryOp .Add) dAdd := by
  intro pins s σ H x y v u Q I rx ry h
  obtain ⟨A, dx, dy, d, r1, r2, e, na, q⟩ := h
  unfold dAdd at e
  split at e
  · cases e; cases r1; cases r2
    exact op_add pins s σ H _ _ v u Q I rx ry ⟨_, _, rfl, rfl, q _ _ (fun _ _ h => h) (.int _)⟩
  · split at e <;> cases e
    rename_i z
    cases r1; cases r2
    exact op_add_str pins s σ H _ _ v u Q I rx ry ⟨_, _, rfl, rfl, sizeLine_le.mp z, q _ _ (fun _ _ h => h) (.str _)⟩
  · split at e <;> cases e
    rename_i z
    cases r1 with
    | lst n1 h1 s1 =>
      cases r2 with
      | lst n2 h2 s2 =>
        cases rx
        cases ry
        obtain ⟨z1, its, n, r, e1⟩ := Inv.seqL I h1
        obtain ⟨z2, its2, n2, r2, e2⟩ := Inv.seqL I h2
        have l1 := r.length
        have l2 := r2.length
        have m1 := s1.length
        have m2 := s2.length
        have z' := sizeLine_le.mp z
        refine PySem.P.add_list e1 e2 ?_ (by rw [List.size_toArray, List.size_toArray]; omega)
        have ea : its.toArray ++ its2.toArray = (its ++ its2).toArray := by simp
        rw [ea]
        exact ⟨.ref _, _, I.lnew (t' := s.toks) (r.append r2) (by rw [List.length_append]; omega), rfl, fin_new (s1.append s2) na q _ I.fresh⟩
  · split at e <;> cases e
    rename_i z
    cases r1 with
    | tup n1 h1 s1 =>
      cases r2 with
      | tup n2 h2 s2 =>
        have m1 := s1.length
        have m2 := s2.length
        have z' := sizeLine_le.mp z.1
        exact op_catT pins s σ H _ _ v u Q I rx ry ⟨_, _, _, _, rfl, rfl, .inl (.inl h1), .inl (.inl h2), fun q => z.2 (by rw [q] at m1; exact List.length_eq_zero_iff.mp m1), by omega, fun e0 => q _ _ (fun _ _ h => h) (by subst e0; cases s2; rw [List.append_nil]; exact .tup n1 h1 s1), fun _ => fin_newT (s1.append s2) na q⟩
  · cases e
theorem od_sub : OpD X (binaryOp .Sub) dSub := by
  intro pins s σ H x y v u Q I rx ry h
  obtain ⟨A, dx, dy, d, r1, r2, e, na, q⟩ := h
  unfold dSub at e
  split at e
  · cases e; cases r1; cases r2
    exact op_sub pins s σ H _ _ v u Q I rx ry ⟨_, _, rfl, rfl, q _ _ (fun _ _ h => h) (.int _)⟩
  · cases e
theorem mulOk_ok {i j : Int} (h : mulOk i j = true) : IntMulOk i j := by
  unfold mulOk at h
  rcases Bool.or_eq_true _ _ |>.mp h with h | h
  · rcases Bool.or_eq_true _ _ |>.mp h with h | h
    · exact CMul.ok (.inl (of_decide_eq_true h))
    · exact CMul.ok (.inr (of_decide_eq_true h))
  · exact CMulW.ok (show _ < _ from of_decide_eq_true h)
theorem od_mul : OpD X (binaryOp .Mult) dMul := by
  intro pins s σ H x y v u Q I rx ry h
  obtain ⟨A, dx, dy, d, r1, r2, e, na, q⟩ := h
  unfold dMul at e
  split at e
  · split at e <;> cases e
    rename_i z
    cases r1; cases r2
    obtain ⟨t, rfl⟩ := rx
    obtain ⟨t', rfl⟩ := ry
    exact PyProof.Rows.mul_int ⟨.int _, H, I.tok _, ⟨_, rfl⟩, q _ _ (fun _ _ h => h) (.int _)⟩ (mulOk_ok z)
  · split at e <;> cases e
    rename_i xs k z
    cases r1 with
    | lst n1 h1 s1 =>
      cases r2
      cases rx
      obtain ⟨t, rfl⟩ := ry
      obtain ⟨zl, its, n, r, e⟩ := Inv.seqL I h1
      have m1 := s1.length
      have hl := r.length
      have z3 := sizeLine_le.mp z.2.2
      have hlen : its.toArray.size * k.toNat ≤ sizeLine := by rw [List.size_toArray, ← hl, ← m1]; exact z3
      have hcap : ¬ its.toArray.size * k.toNat > (2 ^ 63 - 1) / 8 := by
        have : (sizeLine : Nat) ≤ (2 ^ 63 - 1) / 8 := by decide
        omega
      have hfit : ¬ (!Builtin.List.listFitsIndex k) = true := by
        rw [fitsIndex_both (by omega) (by omega)]
        exact Bool.false_ne_true
      have hlong : ¬ Builtin.List.listTooLong (its.toArray.size * k.toNat) = true := by
        rw [notLongL hlen]
        exact Bool.false_ne_true
      have hnew : List.foldl (fun x1 x2 => x1 ++ x2) #[] (List.replicate (if its.toArray.isEmpty = true then 0 else k.toNat) its.toArray) = (List.replicate k.toNat its).flatten.toArray := by
        have f0 : ∀ m : Nat, List.foldl (fun x1 x2 => x1 ++ x2) #[] (List.replicate m its.toArray) = (List.replicate m its).flatten.toArray := fun m => by
          have := foldl_rep its m []
          rw [List.nil_append] at this
          exact this
        rw [f0]
        cases its with
        | nil => simp
        | cons a r' => rw [if_neg (by simp)]
      refine wpAny_binaryOp_repeat_ref (T := "list") (U := "int") (by decide) ⟨_, e, rfl⟩ (fun s' => typeIs_int s' k t) noFill_list_mul F.fills_int_mul F.slot_int_rmul repeat_list F.slot_int_index.lookup
        (call_meets F.slot_int_rmul (typeIs_int s k t) F.entry_int_rmul (F.args_int_rmul_2 _ _) (int___rmul___int_list k t _ its.toArray n)
          ⟨e, rfl, ⟨_, e, rfl⟩, call_meets F.slot_list_mul ⟨_, e, rfl⟩ F.entry_list_mul (F.args_list_mul_2 _ _) (AutoListH.list___mul___list_int_3 _ its.toArray n k t hfit hcap hlong) ⟨e, ?_⟩⟩)
      rw [hnew]
      exact ⟨.ref _, _, I.lnew (t' := s.toks) (r.rep k.toNat) (by rw [PyProof.Rows.lm_len_rep_flat, Nat.mul_comm, hl, ← List.size_toArray]; exact hlen), rfl, fin_new (s1.rep _) na q _ I.fresh⟩
  · cases e
theorem od_div : OpD X (binaryOp .FloorDiv) dDiv := by
  intro pins s σ H x y v u Q I rx ry h
  obtain ⟨A, dx, dy, d, r1, r2, e, na, q⟩ := h
  unfold dDiv at e
  split at e
  · split at e <;> cases e
    rename_i z
    cases r1; cases r2
    rcases z with ⟨z1, z2 | z2⟩
    · exact op_fdiv pins s σ H _ _ v u Q I rx ry ⟨_, _, rfl, rfl, ⟨z1, z2⟩, q _ _ (fun _ _ h => h) (.int _)⟩
    · exact op_fdivW pins s σ H _ _ v u Q I rx ry ⟨_, _, rfl, rfl, ⟨z1, z2⟩, q _ _ (fun _ _ h => h) (.int _)⟩
  · cases e
theorem od_mod : OpD X (binaryOp .Mod) dMod := by
  intro pins s σ H x y v u Q I rx ry h
  obtain ⟨A, dx, dy, d, r1, r2, e, na, q⟩ := h
  unfold dMod at e
  split at e
  · split at e <;> cases e
    rename_i z
    cases r1; cases r2
    exact op_mod pins s σ H _ _ v u Q I rx ry ⟨_, _, rfl, rfl, z, q _ _ (fun _ _ h => h) (.int _)⟩
  · cases e
theorem od_pow : OpD X (binaryOp .Pow) dPow := by
  intro pins s σ H x y v u Q I rx ry h
  obtain ⟨A, dx, dy, d, r1, r2, e, na, q⟩ := h
  unfold dPow at e
  split at e
  · split at e <;> cases e
    rename_i z
    cases r1; cases r2
    exact op_pow pins s σ H _ _ v u Q I rx ry ⟨_, _, rfl, rfl, z, q _ _ (fun _ _ h => h) (.int _)⟩
  · cases e
theorem od_shl : OpD X (binaryOp .LShift) dShl := by
  intro pins s σ H x y v u Q I rx ry h
  obtain ⟨A, dx, dy, d, r1, r2, e, na, q⟩ := h
  unfold dShl at e
  split at e
  · split at e <;> cases e
    rename_i z
    cases r1; cases r2
    exact op_shl pins s σ H _ _ v u Q I rx ry ⟨_, _, rfl, rfl, z, q _ _ (fun _ _ h => h) (.int _)⟩
  · cases e
theorem od_shr : OpD X (binaryOp .RShift) dShr := by
  intro pins s σ H x y v u Q I rx ry h
  obtain ⟨A, dx, dy, d, r1, r2, e, na, q⟩ := h
  unfold dShr at e
  split at e
  · split at e <;> cases e
    rename_i z
    cases r1; cases r2
    exact op_shr pins s σ H _ _ v u Q I rx ry ⟨_, _, rfl, rfl, z, q _ _ (fun _ _ h => h) (.int _)⟩
  · cases e
theorem od_and : OpD X (binaryOp .BitAnd) dAnd := by
  intro pins s σ H x y v u Q I rx ry h
  obtain ⟨A, dx, dy, d, r1, r2, e, na, q⟩ := h
  unfold dAnd at e
  split at e
  · cases e; cases r1; cases r2
    exact op_and pins s σ H _ _ v u Q I rx ry ⟨_, _, rfl, rfl, q _ _ (fun _ _ h => h) (.int _)⟩
  · cases e
theorem fit_depth {a b : D} {n : Nat} (ha : fit 12 a = true) (hu : n + 100 < cLine) : n + 1 + min a.depth b.depth < cLine := by
  have := (fit_plain 12 a ha).2
  omega
theorem od_eq (hu : X.A.units + 100 < cLine) : OpD X (compareOp .Eq) dEq := by
  intro pins s σ H x y v u Q I rx ry h
  obtain ⟨A, dx, dy, d, r1, r2, e, na, q⟩ := h
  unfold dEq at e
  split at e <;> cases e
  rename_i z
  have p1 := fit_plain 12 dx z.1
  have p2 := fit_plain 12 dy z.2
  obtain ⟨as, ra⟩ := reads_of I dx x v p1.1 r1 rx
  obtain ⟨bs, rb⟩ := reads_of I dy y u p2.1 r2 ry
  exact SeqAt.eq_plain ra rb p1.1 p2.1 (by omega) ⟨.bl _, H, I, rfl, q _ _ (fun _ _ h => h) (.bl _)⟩
theorem od_ne (hu : X.A.units + 100 < cLine) : OpD X (compareOp .NotEq) dNe := by
  intro pins s σ H x y v u Q I rx ry h
  obtain ⟨A, dx, dy, d, r1, r2, e, na, q⟩ := h
  unfold dNe at e
  split at e <;> cases e
  rename_i z
  have p1 := fit_plain 12 dx z.1
  have p2 := fit_plain 12 dy z.2
  obtain ⟨as, ra⟩ := reads_of I dx x v p1.1 r1 rx
  obtain ⟨bs, rb⟩ := reads_of I dy y u p2.1 r2 ry
  exact SeqAt.ne_plain ra rb p1.1 p2.1 (by omega) ⟨.bl _, H, I, rfl, q _ _ (fun _ _ h => h) (.bl _)⟩
theorem ordOk_of {a b : D} (h : ordOk a b = true) : fit 12 a = true ∧ fit 12 b = true ∧ PySem.W.alike a b = true ∧ a ≠ .none := by
  unfold ordOk at h
  simp only [Bool.and_eq_true] at h
  obtain ⟨⟨⟨h1, h2⟩, h3⟩, h4⟩ := h
  exact ⟨h1, h2, h3, fun e => by subst e; cases h4⟩
theorem od_lt (hu : X.A.units + 100 < cLine) : OpD X (compareOp .Lt) dLt := by
  intro pins s σ H x y v u Q I rx ry h
  obtain ⟨A, dx, dy, d, r1, r2, e, na, q⟩ := h
  unfold dLt at e
  split at e <;> cases e
  rename_i z
  obtain ⟨z1, z2, z3, z4⟩ := ordOk_of z
  have p1 := fit_plain 12 dx z1
  have p2 := fit_plain 12 dy z2
  obtain ⟨as, ra⟩ := reads_of I dx x v p1.1 r1 rx
  obtain ⟨bs, rb⟩ := reads_of I dy y u p2.1 r2 ry
  exact PySem.W.lt_data ra rb z3 z4 (by omega) ⟨.bl _, H, I, rfl, q _ _ (fun _ _ h => h) (.bl _)⟩
theorem od_gt (hu : X.A.units + 100 < cLine) : OpD X (compareOp .Gt) dGt := by
  intro pins s σ H x y v u Q I rx ry h
  obtain ⟨A, dx, dy, d, r1, r2, e, na, q⟩ := h
  unfold dGt at e
  split at e <;> cases e
  rename_i z
  obtain ⟨z1, z2, z3, z4⟩ := ordOk_of z
  have p1 := fit_plain 12 dx z1
  have p2 := fit_plain 12 dy z2
  obtain ⟨as, ra⟩ := reads_of I dx x v p1.1 r1 rx
  obtain ⟨bs, rb⟩ := reads_of I dy y u p2.1 r2 ry
  exact PySem.W.gt_data ra rb z3 z4 (by omega) ⟨.bl _, H, I, rfl, q _ _ (fun _ _ h => h) (.bl _)⟩
theorem od_le (hu : X.A.units + 100 < cLine) : OpD X (compareOp .LtE) dLe := by
  intro pins s σ H x y v u Q I rx ry h
  obtain ⟨A, dx, dy, d, r1, r2, e, na, q⟩ := h
  unfold dLe at e
  split at e <;> cases e
  rename_i z
  obtain ⟨z1, z2, z3, z4⟩ := ordOk_of z
  have p1 := fit_plain 12 dx z1
  have p2 := fit_plain 12 dy z2
  obtain ⟨as, ra⟩ := reads_of I dx x v p1.1 r1 rx
  obtain ⟨bs, rb⟩ := reads_of I dy y u p2.1 r2 ry
  exact PySem.W.le_data ra rb z3 z4 (by omega) ⟨.bl _, H, I, rfl, q _ _ (fun _ _ h => h) (.bl _)⟩
theorem od_ge (hu : X.A.units + 100 < cLine) : OpD X (compareOp .GtE) dGe := by
  intro pins s σ H x y v u Q I rx ry h
  obtain ⟨A, dx, dy, d, r1, r2, e, na, q⟩ := h
  unfold dGe at e
  split at e <;> cases e
  rename_i z
  obtain ⟨z1, z2, z3, z4⟩ := ordOk_of z
  have p1 := fit_plain 12 dx z1
  have p2 := fit_plain 12 dy z2
  obtain ⟨as, ra⟩ := reads_of I dx x v p1.1 r1 rx
  obtain ⟨bs, rb⟩ := reads_of I dy y u p2.1 r2 ry
  exact PySem.W.ge_data ra rb z3 z4 (by omega) ⟨.bl _, H, I, rfl, q _ _ (fun _ _ h => h) (.bl _)⟩
theorem od_in (hu : X.A.units + 100 < cLine) : OpD X (compareOp .In) dIn := by
  intro pins s σ H x y v u Q I rx ry h
  obtain ⟨A, dx, dy, d, r1, r2, e, na, q⟩ := h
  unfold dIn at e
  split at e
  · rename_i xs
    split at e <;> cases e
    rename_i z
    have p1 := fit_plain 12 dx z.1
    have p2 := fitAll_plain 12 _ z.2
    obtain ⟨as, ra⟩ := reads_of I dx x v p1.1 r1 rx
    obtain ⟨bs, rb⟩ := reads_of I (.list xs) y u (by simp only [PyData.plain]; exact p2.1) r2 ry
    exact SeqAt.in_list_data rb ra p2.1 p1.1 (by omega) ⟨.bl _, H, I, rfl, q _ _ (fun _ _ h => h) (.bl _)⟩
  · rename_i xs
    split at e <;> cases e
    rename_i z
    have p1 := fit_plain 12 dx z.1
    have p2 := fitAll_plain 12 _ z.2
    obtain ⟨as, ra⟩ := reads_of I dx x v p1.1 r1 rx
    obtain ⟨bs, rb⟩ := reads_of I (.tuple xs) y u (by simp only [PyData.plain]; exact p2.1) r2 ry
    exact SeqAt.in_tuple_data rb ra p2.1 p1.1 (by omega) ⟨.bl _, H, I, rfl, q _ _ (fun _ _ h => h) (.bl _)⟩
  · cases e; cases r1; cases r2
    exact op_in_str pins s σ H _ _ v u Q I rx ry ⟨_, _, rfl, rfl, q _ _ (fun _ _ h => h) (.bl _)⟩
  · cases e
theorem dNot_bind {o : Option D} {d : D} (h : o.bind dNot = some d) : ∃ k, o = some (.bool k) ∧ d = .bool !k := by
  obtain ⟨d', h1, h2⟩ := Option.bind_eq_some_iff.mp h
  cases d' <;> simp [dNot] at h2
  exact ⟨_, h1, h2.symm⟩
theorem od_notIn (hu : X.A.units + 100 < cLine) : OpD X (compareOp .NotIn) dNotIn := by
  intro pins s σ H x y v u Q I rx ry h
  obtain ⟨A, dx, dy, d, r1, r2, e, na, q⟩ := h
  unfold dNotIn at e
  obtain ⟨k, e', ek⟩ := dNot_bind e
  clear e
  subst ek
  unfold dIn at e'
  split at e'
  · rename_i xs
    split at e' <;> simp only [Option.some.injEq, PyData.bool.injEq, reduceCtorEq] at e'
    subst e'
    rename_i z
    have p1 := fit_plain 12 dx z.1
    have p2 := fitAll_plain 12 _ z.2
    obtain ⟨as, ra⟩ := reads_of I dx x v p1.1 r1 rx
    obtain ⟨bs, rb⟩ := reads_of I (.list xs) y u (by simp only [PyData.plain]; exact p2.1) r2 ry
    exact SeqAt.notIn_list_data rb ra p2.1 p1.1 (by omega) ⟨.bl _, H, I, rfl, q _ _ (fun _ _ h => h) (.bl _)⟩
  · rename_i xs
    split at e' <;> simp only [Option.some.injEq, PyData.bool.injEq, reduceCtorEq] at e'
    subst e'
    rename_i z
    have p1 := fit_plain 12 dx z.1
    have p2 := fitAll_plain 12 _ z.2
    obtain ⟨as, ra⟩ := reads_of I dx x v p1.1 r1 rx
    obtain ⟨bs, rb⟩ := reads_of I (.tuple xs) y u (by simp only [PyData.plain]; exact p2.1) r2 ry
    exact SeqAt.notIn_tuple_data rb ra p2.1 p1.1 (by omega) ⟨.bl _, H, I, rfl, q _ _ (fun _ _ h => h) (.bl _)⟩
  · simp only [Option.some.injEq, PyData.bool.injEq] at e'
    subst e'
    cases r1; cases r2
    exact op_notin_str pins s σ H _ _ v u Q I rx ry ⟨_, _, rfl, rfl, q _ _ (fun _ _ h => h) (.bl _)⟩
  · cases e'
end
end DS
namespace DS
open PySem PySem.Spec PyProof.Rows L2
section
variable {X : Cx} {a b c e : Expr} {es : List Expr} {pos : Pos}
/-! ### constants, names -/
theorem dx_const {d : D} (h : ∀ σ H Q, (∀ v, (∀ A, RepD A H d v) → Q v H) → wE X e σ H Q) : DX X e (M.pure d) :=
  ⟨fun W tk σ H Γ fp rest Q S hW => h σ H Q fun v r => hW.done (fo := []) S ⟨rfl, r _⟩ (Go.refl _ _)⟩
theorem dx_int {i : Int} {j : Nat} : DX X (.Constant (.int i) j pos) (M.pure (.int i)) := dx_const fun σ H Q q => we pe_int (q _ fun _ => .int i)
theorem dx_str {x : Str} {j : Nat} : DX X (.Constant (.str x) j pos) (M.pure (.str x)) := dx_const fun σ H Q q => we pe_str (q _ fun _ => .str x)
theorem dx_bool {x : Bool} {j : Nat} : DX X (.Constant (.bool x) j pos) (M.pure (.bool x)) := dx_const fun σ H Q q => we pe_bl (q _ fun _ => .bl x)
theorem dx_none {j : Nat} : DX X (.Constant .none j pos) (M.pure .none) := dx_const fun σ H Q q => we pe_non (q _ fun _ => .non)
/-- a module's constant -/
def Cst (u : Value) (d : D) : Prop := ∃ v, RelV v u ∧ ∀ A H, RepD A H d v
theorem Cst.int {i : Int} {t : Tok} : Cst (.int i t) (.int i) := ⟨.int i, ⟨t, rfl⟩, fun _ _ => .int i⟩
theorem Cst.str {i : Str} {t : Tok} : Cst (.str i t) (.str i) := ⟨.str i, ⟨t, rfl⟩, fun _ _ => .str i⟩
theorem dx_glob {x : Str} {u : Value} {d : D} (hm : X.mg x = some u) (hc : Cst u d) (hg : Gl X x := by rfl) (hd : (x == ("__debug__" : Str)) = false := by decide) : DX X (.Name x pos) (M.pure d) := by
  obtain ⟨v, r, q⟩ := hc
  exact dx_const fun σ H Q k => we (pe_glob hg hm r hd) (k _ fun A => q A H)
/-- a name read: what it owned is shared from here on -/
def M.rd (i : Nat) : M D := fun Γ => match Γ[i]? with
  | some (some (.sh d)) => some (.ok d, Γ)
  | some (some o) => some (.ok o.erase, Γ.set i (some (.sh o.erase)))
  | _ => none
/-- a name's value taken away -/
def M.mv (i : Nat) : M O := fun Γ => match Γ[i]? with
  | some (some (.sh d)) => some (.ok (.sh d), Γ)
  | some (some o) => some (.ok o, Γ.set i none)
  | _ => none
/-- a name looked at -/
def M.look (i : Nat) (k : O → Option D) : M D := fun Γ => match Γ[i]? with
  | some (some o) => (k o).map fun d => (.ok d, Γ)
  | _ => none
theorem set_none {σ : St} {i : Nat} {v : V} (h : σ[i]? = some (some v)) : σ.set i (some v) = σ := by
  obtain ⟨h1, h2⟩ := List.getElem?_eq_some_iff.mp h
  rw [← h2, List.set_getElem_self]
theorem sub3 {f1 fo f2 rest : List Addr} : ∀ b ∈ f1 ++ f2 ++ rest, b ∈ f1 ++ fo ++ f2 ++ rest := fun b h => by
  simp only [List.mem_append] at h ⊢
  rcases h with (h | h) | h
  · exact .inl (.inl (.inl h))
  · exact .inl (.inr h)
  · exact .inr h
theorem sub3_sublist {f1 fo f2 rest : List Addr} : List.Sublist (f1 ++ f2 ++ rest) (f1 ++ fo ++ f2 ++ rest) := by
  refine List.Sublist.append (List.Sublist.append ?_ (List.Sublist.refl _)) (List.Sublist.refl _)
  exact List.sublist_append_left _ _
/-- a slot's owned things shared -/
theorem SOk.froze {H : Hp} {Γ : Env} {σ : St} {fp rest : List Addr} {i : Nat} {o : O} (S : SOk H Γ σ fp rest) (e : Γ[i]? = some (some o)) :
    ∃ v fp', σ[i]? = some (some v) ∧ SOk H (Γ.set i (some (.sh o.erase))) σ fp' rest ∧ RepD (fp' ++ rest) H o.erase v ∧ Go fp H fp' H := by
  obtain ⟨v, fo, f1, f2, h1, h2, h3, h4, h5⟩ := S.env.split e
  subst h3
  have nd := S.nd
  have dis : ∀ b ∈ f1 ++ f2 ++ rest, b ∈ f1 ++ fo ++ f2 ++ rest ∧ b ∉ fo := fun b h => ⟨sub3 b h, fun q => by
    simp only [List.mem_append] at h
    rw [List.append_assoc, List.append_assoc] at nd
    have n1 := List.nodup_append.mp nd
    have n2 := List.nodup_append.mp n1.2.1
    rcases h with (h | h) | h
    · exact n1.2.2 b h b (List.mem_append_left _ q) rfl
    · exact n2.2.2 b q b (List.mem_append_left _ h) rfl
    · exact n2.2.2 b q b (List.mem_append_right _ h) rfl⟩
  have R := h2.froze dis
  have E := h5 (f1 ++ f2 ++ rest) H (fun b u e n => ⟨e, fun q => n (sub3 b q)⟩) (fun b u e _ => e) (.sh o.erase) v [] (.sh R)
  rw [set_none h1] at E
  rw [List.append_nil] at E
  refine ⟨v, f1 ++ f2, h1, ⟨E, nd.sublist sub3_sublist, fun a h => S.trk a (sub3 a h)⟩, R, ⟨fun b u e _ => e, fun b h => .inl ?_⟩⟩
  simp only [List.mem_append] at h ⊢
  rcases h with h | h
  · exact .inl (.inl h)
  · exact .inr h
theorem dx_name (i : Nat) {x : Str} (hN : X.N[i]? = some x := by rfl) (hv : Vis X.env.scope x := by first | exact Or.inl rfl | exact Or.inr (Or.inl rfl) | exact Or.inr (Or.inr rfl)) (hd : (x == ("__debug__" : Str)) = false := by decide)
    (hcd : (x == ("__classdict__" : Str)) = false := by decide) : DX X (.Name x pos) (M.rd i) := by
  refine ⟨fun W tk σ H Γ fp rest Q S hW => we (pe_var (pos := pos) hN hv hd hcd) ?_⟩
  unfold M.rd at hW
  cases e : Γ[i]? with
  | none => rw [e] at hW; exact hW.elim
  | some r =>
    rw [e] at hW
    cases r with
    | none => exact hW.elim
    | some o =>
      have go : ∀ (d : D) (Γ' : Env) (v : V) (fp' : List Addr), Wp X W fp rest H σ repX (M.pure d Γ') Q → σ[i]? = some (some v) → SOk H Γ' σ fp' rest → RepD (fp' ++ rest) H d v → Go fp H fp' H → tVar i σ H Q :=
        fun d Γ' v fp' hW h1 S' R G => ⟨v, h1, hW.done (fo := []) S' ⟨rfl, R⟩ G⟩
      cases o with
      | sh d =>
        obtain ⟨v, fo, f1, f2, h1, h2, _⟩ := S.env.split e
        cases h2 with
        | sh R => exact go d Γ v fp hW h1 S R (Go.refl _ _)
      | lst l => obtain ⟨v, fp', h1, S', R, G⟩ := S.froze e; exact go _ _ v fp' hW h1 S' R G
      | tup l => obtain ⟨v, fp', h1, S', R, G⟩ := S.froze e; exact go _ _ v fp' hW h1 S' R G
      | dic l => obtain ⟨v, fp', h1, S', R, G⟩ := S.froze e; exact go _ _ v fp' hW h1 S' R G
theorem RepEnv.noslot {A : List Addr} {H : Hp} : ∀ {Γ : Env} {σ : St} {fp : List Addr} {i : Nat} {x : Option V}, RepEnv A H (Γ.set i none) (σ.set i x) fp → RepEnv A H (Γ.set i none) σ fp ∨ Γ.length ≠ σ.length
  | Γ, σ, fp, i, x, h => by
    by_cases hl : Γ.length = σ.length
    · left
      have go : ∀ (Γ : Env) (σ : St) (fp : List Addr) (i : Nat) (x : Option V), RepEnv A H (Γ.set i none) (σ.set i x) fp → Γ.length = σ.length → RepEnv A H (Γ.set i none) σ fp := by
        intro Γ
        induction Γ with
        | nil => intro σ fp i x h hl; cases σ with | nil => exact h | cons _ _ => simp at hl
        | cons g Γ ih =>
          intro σ fp i x h hl
          cases σ with
          | nil => simp at hl
          | cons y σ =>
            cases i with
            | zero => cases h with | no r => exact .no r
            | succ i =>
              have hl' : Γ.length = σ.length := by simpa using hl
              cases g with
              | none => cases h with | no r => exact .no (ih σ _ i x r hl')
              | some o => cases h with | yes r1 r => exact .yes r1 (ih σ _ i x r hl')
      exact go Γ σ fp i x h hl
    · exact .inr hl
theorem de_mv (i : Nat) {x : Str} (hN : X.N[i]? = some x := by rfl) (hv : Vis X.env.scope x := by first | exact Or.inl rfl | exact Or.inr (Or.inl rfl) | exact Or.inr (Or.inr rfl)) (hd : (x == ("__debug__" : Str)) = false := by decide)
    (hcd : (x == ("__classdict__" : Str)) = false := by decide) : DE X (.Name x pos) (M.mv i) := by
  refine ⟨fun W tk σ H Γ fp rest Q S hW => we (pe_var (pos := pos) hN hv hd hcd) ?_⟩
  unfold M.mv at hW
  cases e : Γ[i]? with
  | none => rw [e] at hW; exact hW.elim
  | some r =>
    rw [e] at hW
    cases r with
    | none => exact hW.elim
    | some o =>
      obtain ⟨v, fo, f1, f2, h1, h2, h3, h4, h5⟩ := S.env.split e
      subst h3
      have gen : Wp X W (f1 ++ fo ++ f2) rest H σ RepO (M.pure o (Γ.set i none)) Q → tVar i σ H Q := fun hW => by
        have hl := S.env.length
        have E : RepEnv (f1 ++ fo ++ f2 ++ rest) H (Γ.set i none) σ (f1 ++ f2) := (h4 none).noslot.resolve_right fun n => n hl
        have p : (f1 ++ fo ++ f2 ++ rest).Perm (f1 ++ f2 ++ (fo ++ rest)) := by
          rw [List.append_assoc, List.append_assoc, List.append_assoc]
          refine List.Perm.append_left f1 ?_
          rw [← List.append_assoc, ← List.append_assoc]
          exact List.Perm.append_right rest List.perm_append_comm
        refine ⟨v, h1, hW.done (fo := fo) (fp' := f1 ++ f2) ⟨E.congr fun b h => p.mem_iff.mpr h, p.nodup_iff.mp S.nd, fun a h => S.trk a (p.mem_iff.mpr h)⟩ (h2.congr fun b h => p.mem_iff.mpr h) ⟨fun b u e _ => e, fun b h => .inl ?_⟩⟩
        simp only [List.mem_append] at h ⊢
        rcases h with h | h | h
        · exact .inl (.inr h)
        · exact .inl (.inl h)
        · exact .inr h
      cases o with
      | sh d => cases h2 with | sh R => exact ⟨v, h1, Wp.done (a := O.sh d) (fo := []) hW S (.sh R) (Go.refl _ _)⟩
      | lst l => exact gen hW
      | tup l => exact gen hW
      | dic l => exact gen hW
/-! ### is, is not -/
theorem od_is : OpD X (compareOp .Is) dIs := by
  intro pins s σ H x y v u Q I rx ry h
  obtain ⟨A, dx, dy, d, r1, r2, e, na, q⟩ := h
  have fin : ∀ k, d = .bool k → EP X pins σ Q (.bool k) s := fun k ek => by subst ek; exact ⟨.bl k, H, I, rfl, q _ _ (fun _ _ h => h) (.bl k)⟩
  cases r1 <;> cases r2 <;> cases e <;> (first | (obtain ⟨t, rfl⟩ := rx) | cases rx) <;> (first | (obtain ⟨t', rfl⟩ := ry) | cases ry) <;>
    first
    | exact is_bool (fin _ rfl)
    | exact is_none_none (fin _ rfl)
    | exact wpAny_pure (fin false rfl)
theorem od_isNot : OpD X (compareOp .IsNot) dIsNot := by
  intro pins s σ H x y v u Q I rx ry h
  obtain ⟨A, dx, dy, d, r1, r2, e, na, q⟩ := h
  have fin : ∀ k, d = .bool k → EP X pins σ Q (.bool k) s := fun k ek => by subst ek; exact ⟨.bl k, H, I, rfl, q _ _ (fun _ _ h => h) (.bl k)⟩
  cases r1 <;> cases r2 <;> cases e <;> (first | (obtain ⟨t, rfl⟩ := rx) | cases rx) <;> (first | (obtain ⟨t', rfl⟩ := ry) | cases ry) <;>
    first
    | exact isnot_bool (fin _ rfl)
    | exact isnot_none_none (fin _ rfl)
    | exact wpAny_pure (fin true rfl)
/-! ### and, or, not, if -/
variable {f g : M Bool} {fx gx : M D} {rst : List Expr}
theorem dt_not (h : DT X a f) : DT X (.UnaryOp .Not a pos) (M.bind f fun k => M.pure (!k)) := by
  refine ⟨fun W tk σ H Γ fp rest Q S hW => wt (pt_not pt_w) ?_⟩
  refine h.thn tk S hW fun k Γ1 x H1 fo fp1 S1 R1 G1 hW1 => ?_
  obtain ⟨rfl, rfl⟩ := R1
  exact hW1.done (fo := []) S1 ⟨rfl, rfl⟩ (Go.refl _ _)
theorem dx_not (h : DX X a fx) : DX X (.UnaryOp .Not a pos) (M.bind fx fun d => M.lift (dNot d)) := by
  refine ⟨fun W tk σ H Γ fp rest Q S hW => we (pe_not pe_w) ?_⟩
  refine h.thn tk S hW fun d Γ1 x H1 fo fp1 S1 R1 G1 hW1 => ?_
  obtain ⟨rfl, R1⟩ := R1
  obtain ⟨d', e, hW1⟩ := hW1.lift1
  cases d <;> simp [dNot] at e
  subst e
  cases R1
  exact ⟨_, rfl, hW1.done (fo := []) S1 ⟨rfl, .bl _⟩ (Go.refl _ _)⟩
theorem dw_and1 (h : DT X a f) : DW X (.BoolOp .And [a] pos) f := ⟨fun W tk σ H Γ fp rest Q S hW => ww (pw_and1 pt_w) (h.run W tk σ H Γ fp rest Q S hW)⟩
theorem dw_or1 (h : DT X a f) : DW X (.BoolOp .Or [a] pos) f := ⟨fun W tk σ H Γ fp rest Q S hW => ww (pw_or1 pt_w) (h.run W tk σ H Γ fp rest Q S hW)⟩
theorem dw_and (h1 : DT X a f) (h2 : DW X (.BoolOp .And (b :: rst) pos) g) : DW X (.BoolOp .And (a :: b :: rst) pos) (M.bind f fun k => if k = true then g else M.pure false) := by
  refine ⟨fun W tk σ H Γ fp rest Q S hW => ww (pw_and pt_w pw_w) ?_⟩
  refine h1.thn tk S hW fun k Γ1 x H1 fo fp1 S1 R1 G1 hW1 => ?_
  obtain ⟨rfl, rfl⟩ := R1
  cases k with
  | true => exact h2.run W tk σ H1 Γ1 fp1 rest Q S1 hW1
  | false => exact Wp.done (a := false) (fo := []) hW1 S1 ⟨rfl, rfl⟩ (Go.refl _ _)
theorem dw_or (h1 : DT X a f) (h2 : DW X (.BoolOp .Or (b :: rst) pos) g) : DW X (.BoolOp .Or (a :: b :: rst) pos) (M.bind f fun k => if k = true then M.pure true else g) := by
  refine ⟨fun W tk σ H Γ fp rest Q S hW => ww (pw_or pt_w pw_w) ?_⟩
  refine h1.thn tk S hW fun k Γ1 x H1 fo fp1 S1 R1 G1 hW1 => ?_
  obtain ⟨rfl, rfl⟩ := R1
  cases k with
  | true => exact Wp.done (a := true) (fo := []) hW1 S1 ⟨rfl, rfl⟩ (Go.refl _ _)
  | false => exact h2.run W tk σ H1 Γ1 fp1 rest Q S1 hW1
theorem dt_w (h : DW X a f) : DT X a f := ⟨fun W tk σ H Γ fp rest Q S hW => wt (PW.pt pw_w) (h.run W tk σ H Γ fp rest Q S hW)⟩
/-- .. as values -/
theorem dx_and (h1 : DX X a fx) (h2 : DX X (.BoolOp .And (b :: rst) pos) gx) : DX X (.BoolOp .And (a :: b :: rst) pos) (M.bind fx fun d => M.bind (M.lift (asB d)) fun k => if k = true then gx else M.pure (.bool false)) := by
  refine ⟨fun W tk σ H Γ fp rest Q S hW => we (pe_and pe_w pe_w) ?_⟩
  refine h1.thn tk S hW fun d Γ1 x H1 fo fp1 S1 R1 G1 hW1 => ?_
  obtain ⟨rfl, R1⟩ := R1
  obtain ⟨k, e, hW1⟩ := hW1.lift
  cases d <;> cases e
  cases R1
  refine ⟨k, rfl, ?_⟩
  cases k with
  | true => exact h2.run W tk σ H1 Γ1 fp1 rest Q S1 hW1
  | false => exact Wp.done (a := PyData.bool false) (fo := []) hW1 S1 ⟨rfl, RepD.bl _⟩ (Go.refl _ _)
theorem dx_or (h1 : DX X a fx) (h2 : DX X (.BoolOp .Or (b :: rst) pos) gx) : DX X (.BoolOp .Or (a :: b :: rst) pos) (M.bind fx fun d => M.bind (M.lift (asB d)) fun k => if k = true then M.pure (.bool true) else gx) := by
  refine ⟨fun W tk σ H Γ fp rest Q S hW => we (pe_or pe_w pe_w) ?_⟩
  refine h1.thn tk S hW fun d Γ1 x H1 fo fp1 S1 R1 G1 hW1 => ?_
  obtain ⟨rfl, R1⟩ := R1
  obtain ⟨k, e, hW1⟩ := hW1.lift
  cases d <;> cases e
  cases R1
  refine ⟨k, rfl, ?_⟩
  cases k with
  | true => exact Wp.done (a := PyData.bool true) (fo := []) hW1 S1 ⟨rfl, RepD.bl _⟩ (Go.refl _ _)
  | false => exact h2.run W tk σ H1 Γ1 fp1 rest Q S1 hW1
theorem dx_one {op : BoolOp} (h : DX X a fx) : DX X (.BoolOp op [a] pos) fx := ⟨fun W tk σ H Γ fp rest Q S hW => we (pe_one pe_w) (h.run W tk σ H Γ fp rest Q S hW)⟩
theorem dx_ifExp (hc : DT X c f) (h1 : DX X a fx) (h2 : DX X b gx) : DX X (.IfExp c a b pos) (M.bind f fun k => if k = true then fx else gx) := by
  refine ⟨fun W tk σ H Γ fp rest Q S hW => we (pe_ifExp pt_w pe_w pe_w) ?_⟩
  refine hc.thn tk S hW fun k Γ1 x H1 fo fp1 S1 R1 G1 hW1 => ?_
  obtain ⟨rfl, rfl⟩ := R1
  cases k with
  | true => exact h1.run W tk σ H1 Γ1 fp1 rest Q S1 hW1
  | false => exact h2.run W tk σ H1 Γ1 fp1 rest Q S1 hW1
def dNeg : D → Option D
  | .int i => some (.int (-i))
  | _ => none
theorem dx_neg (h : DX X a fx) : DX X (.UnaryOp .USub a pos) (M.bind fx fun d => M.lift (dNeg d)) := by
  refine ⟨fun W tk σ H Γ fp rest Q S hW => we (pe_un un_neg pe_w) ?_⟩
  refine h.thn tk S hW fun d Γ1 x H1 fo fp1 S1 R1 G1 hW1 => ?_
  obtain ⟨rfl, R1⟩ := R1
  obtain ⟨d', e, hW1⟩ := hW1.lift1
  cases d <;> simp [dNeg] at e
  subst e
  cases R1
  exact ⟨_, rfl, hW1.done (fo := []) S1 ⟨rfl, .int _⟩ (Go.refl _ _)⟩
/-! ### arguments, displays -/
variable {fs : M (List D)} {fo : M O} {fos : M (List O)}
theorem da_nil : DA X [] (M.pure []) := ⟨fun W tk σ H Γ fp rest Q S hW => wa pa_nil (hW.done (fo := []) S ⟨rfl, .nil⟩ (Go.refl _ _))⟩
theorem da_cons (h1 : DX X a fx) (h2 : DA X es fs) (hs : starEach (a :: es) X.env = (false, eval a X.env) :: starEach es X.env := by rfl) : DA X (a :: es) (M.bind fx fun x => M.bind fs fun xs => M.pure (x :: xs)) := by
  refine ⟨fun W tk σ H Γ fp rest Q S hW => wa (pa_cons pe_w pa_w hs) ?_⟩
  refine h1.thn tk S hW fun d Γ1 x H1 fo fp1 S1 R1 G1 hW1 => ?_
  obtain ⟨rfl, R1⟩ := R1
  refine h2.thn tk S1 hW1 fun ds Γ2 xs H2 fo fp2 S2 R2 G2 hW2 => ?_
  obtain ⟨rfl, R2⟩ := R2
  exact hW2.done (fo := []) S2 ⟨rfl, .cons (G2.repD R1) R2⟩ (Go.refl _ _)
theorem dao_nil : DAO X [] (M.pure []) := ⟨fun W tk σ H Γ fp rest Q S hW => wa pa_nil (hW.done (fo := []) S .nil (Go.refl _ _))⟩
theorem perm3 (a b c d : List Addr) : (a ++ (b ++ (c ++ d))).Perm (a ++ (c ++ b ++ d)) := by
  refine List.Perm.append_left a ?_
  rw [← List.append_assoc]
  exact List.Perm.append_right d List.perm_append_comm
theorem SOk.perm {H : Hp} {Γ : Env} {σ : St} {fp r1 r2 : List Addr} (S : SOk H Γ σ fp r1) (p : (fp ++ r1).Perm (fp ++ r2)) : SOk H Γ σ fp r2 :=
  ⟨S.env.congr fun b h => p.mem_iff.mpr h, p.nodup_iff.mp S.nd, fun a h => S.trk a (p.mem_iff.mpr h)⟩
theorem dao_cons (h1 : DE X a fo) (h2 : DAO X es fos) (hs : starEach (a :: es) X.env = (false, eval a X.env) :: starEach es X.env := by rfl) : DAO X (a :: es) (M.bind fo fun x => M.bind fos fun xs => M.pure (x :: xs)) := by
  refine ⟨fun W tk σ H Γ fp rest Q S hW => wa (pa_cons pe_w pa_w hs) ?_⟩
  refine h1.thn tk S hW fun d Γ1 x H1 f1 fp1 S1 R1 G1 hW1 => ?_
  refine h2.run W tk σ H1 Γ1 fp1 (f1 ++ rest) _ S1 ?_
  unfold M.bind at hW1
  cases e : fos Γ1 with
  | none => rw [e] at hW1; exact hW1.elim
  | some r =>
    obtain ⟨r, Γ2⟩ := r
    rw [e] at hW1
    cases r with
    | ok ds =>
      intro xs H2 f2 fp2 S2 R2 G2
      have p := perm3 fp2 f2 f1 rest
      have R1' : RepO (fp2 ++ (f2 ++ (f1 ++ rest))) H2 d x f1 := by
        have nd := S1.nd
        have q : ∀ b ∈ fp2 ++ (f2 ++ (f1 ++ rest)), b ∈ (f2 ++ fp2) ++ (f1 ++ rest) := fun b h => by
          simp only [List.mem_append] at h ⊢
          rcases h with h | h | h
          · exact .inl (.inr h)
          · exact .inl (.inl h)
          · exact .inr h
        exact (G2.repO R1 nd).congr q
      refine Wp.done (a := d :: ds) (fo := f1 ++ f2) (fp' := fp2) hW1 (S2.perm p) (.cons (R1'.congr fun b h => p.mem_iff.mpr h) (R2.congr fun b h => p.mem_iff.mpr h)) ?_
      have G3 := G2.frame f1
      refine G3.congr (fun b h => ?_) fun b h => .inl ?_
      · simp only [List.mem_append] at h ⊢
        rcases h with h | h
        · exact .inr h
        · exact .inl h
      · simp only [List.mem_append] at h ⊢
        rcases h with (h | h) | h
        · exact .inr h
        · exact .inl (.inl h)
        · exact .inl (.inr h)
    | ex ε =>
      intro cls d' H' fp' S' R' G'
      refine hW1 cls d' H' fp' S'.drop ?_ ((G'.frame f1).congr (fun b h => ?_) fun b h => .inl (List.mem_append_left _ h))
      · obtain ⟨hc, hf⟩ := R'
        refine ⟨hc, ?_⟩
        have sub : ∀ b ∈ fp' ++ rest, b ∈ fp' ++ (f1 ++ rest) := fun b h => by
          simp only [List.mem_append] at h ⊢
          rcases h with h | h
          · exact .inl h
          · exact .inr (.inr h)
        cases hfl : ε.flds with
        | none => rw [hfl] at hf; exact hf
        | some fs =>
          rw [hfl] at hf
          obtain ⟨dd, vs, e1, e2, e3, e4⟩ := hf
          exact ⟨dd, vs, e1, fun q => e2 (sub dd q), e3, e4.congr sub⟩
      · simp only [List.mem_append] at h ⊢
        rcases h with h | h
        · exact .inr h
        · exact .inl h
/-- [..] new, owned -/
noncomputable def mkL (l : List O) : Option O := @ite _ (l.length ≤ 16777216) (Classical.propDecidable _) (some (.lst l)) none
noncomputable def mkT (l : List O) : Option O := @ite _ (l.length ≤ 16777216) (Classical.propDecidable _) (some (.tup l)) none
theorem new_owned {W : WX} {fp f1 rest : List Addr} {H : Hp} {σ : St} {Γ : Env} {Q : VK} {os : List O} {xs : List V} (S : SOk H Γ σ fp (f1 ++ rest)) (R : RepOs (fp ++ (f1 ++ rest)) H os xs f1)
    (h : Wp X W (f1 ++ fp) rest H σ RepO (M.pure (.lst os) Γ) Q) : ∀ p, H p = none → Q (.ref p) (upd H p (.lst xs)) := fun p hp => by
  have np := S.fresh hp
  have nf : p ∉ f1 := fun q => np (by simp [q])
  have S' := S.grow (grow_upd (o := .lst xs) hp)
  have perm : (p :: (fp ++ (f1 ++ rest))).Perm (fp ++ ((p :: f1) ++ rest)) := by
    rw [List.cons_append]
    exact List.perm_middle.symm
  have R' : RepOs (fp ++ ((p :: f1) ++ rest)) (upd H p (.lst xs)) os xs f1 := R.stay (fun b u e n => ⟨grow_upd hp b u e, fun q => by
    rcases List.mem_cons.mp (perm.mem_iff.mpr q) with q | q
    · subst q; rw [hp] at e; cases e
    · exact n q⟩) fun b u e _ => grow_upd hp b u e
  refine h.done (fo := p :: f1) (fp' := fp) ⟨?_, perm.nodup_iff.mp (List.nodup_cons.mpr ⟨np, S.nd⟩), fun b hb => ?_⟩ (.lst upd_same R') ⟨fun b u e _ => grow_upd hp b u e, fun b hb => ?_⟩
  · exact S.env.stay (fun b u e n => ⟨grow_upd hp b u e, fun q => by
      rcases List.mem_cons.mp (perm.mem_iff.mpr q) with q | q
      · subst q; rw [hp] at e; cases e
      · exact n q⟩) fun b u e _ => grow_upd hp b u e
  · rcases List.mem_cons.mp (perm.mem_iff.mpr hb) with q | q
    · subst q; exact ⟨_, upd_same, trivial⟩
    · obtain ⟨u, e, o⟩ := S.trk b q
      exact ⟨u, grow_upd hp b u e, o⟩
  · rw [List.cons_append] at hb
    rcases List.mem_cons.mp hb with q | q
    · subst q; exact .inr hp
    · exact .inl q
theorem new_tup {W : WX} {fp f1 rest : List Addr} {H : Hp} {σ : St} {Γ : Env} {Q : VK} {os : List O} {xs : List V} (S : SOk H Γ σ fp (f1 ++ rest)) (R : RepOs (fp ++ (f1 ++ rest)) H os xs f1)
    (h : Wp X W (f1 ++ fp) rest H σ RepO (M.pure (.tup os) Γ) Q) : ∀ p, H p = none → Q (.ref p) (upd H p (.tup xs)) := fun p hp => by
  have np := S.fresh hp
  have S' := S.grow (grow_upd (o := .tup xs) hp)
  have R' : RepOs (fp ++ (f1 ++ rest)) (upd H p (.tup xs)) os xs f1 := R.stay (fun b u e n => ⟨grow_upd hp b u e, n⟩) fun b u e _ => grow_upd hp b u e
  exact h.done (fo := f1) (fp' := fp) S' (.tup np upd_same R') (Go.grow (grow_upd hp) _)
theorem de_lst (h : DAO X es fos) : DE X (.List es pos) (M.bind fos fun l => M.lift (mkL l)) := by
  refine ⟨fun W tk σ H Γ fp rest Q S hW => we (pe_lst pa_w) ?_⟩
  refine h.thn tk S hW fun os Γ1 xs H1 f1 fp1 S1 R1 G1 hW1 => ?_
  obtain ⟨o, e, hW1⟩ := hW1.lift1
  unfold mkL at e
  split at e <;> cases e
  rename_i z
  exact ⟨by rw [← R1.length]; exact sizeLine_le.mp z, new_owned S1 R1 hW1⟩
theorem de_tup {k : Nat} (h : DAO X es fos) : DE X (.Tuple es k pos) (M.bind fos fun l => M.lift (mkT l)) := by
  refine ⟨fun W tk σ H Γ fp rest Q S hW => we (pe_tup pa_w) ?_⟩
  refine h.thn tk S hW fun os Γ1 xs H1 f1 fp1 S1 R1 G1 hW1 => ?_
  obtain ⟨o, e, hW1⟩ := hW1.lift1
  unfold mkT at e
  split at e <;> cases e
  rename_i z
  exact ⟨by rw [← R1.length]; exact sizeLine_le.mp z, new_tup S1 R1 hW1⟩
/-- .. of shared things -/
noncomputable def mkDL (l : List D) : Option D := @ite _ (l.length ≤ 16777216) (Classical.propDecidable _) (some (.list l)) none
noncomputable def mkDT (l : List D) : Option D := @ite _ (l.length ≤ 16777216) (Classical.propDecidable _) (some (.tuple l)) none
theorem dx_lst (h : DA X es fs) : DX X (.List es pos) (M.bind fs fun l => M.lift (mkDL l)) := by
  refine ⟨fun W tk σ H Γ fp rest Q S hW => we (pe_lst pa_w) ?_⟩
  refine h.thn tk S hW fun os Γ1 xs H1 f1 fp1 S1 R1 G1 hW1 => ?_
  obtain ⟨rfl, R1⟩ := R1
  obtain ⟨o, e, hW1⟩ := hW1.lift1
  unfold mkDL at e
  split at e <;> cases e
  rename_i z
  exact ⟨by rw [← R1.length]; exact sizeLine_le.mp z, fin_new R1 (fun b hb => S1.fresh hb) (fin_shared S1 hW1)⟩
theorem dx_tup {k : Nat} (h : DA X es fs) : DX X (.Tuple es k pos) (M.bind fs fun l => M.lift (mkDT l)) := by
  refine ⟨fun W tk σ H Γ fp rest Q S hW => we (pe_tup pa_w) ?_⟩
  refine h.thn tk S hW fun os Γ1 xs H1 f1 fp1 S1 R1 G1 hW1 => ?_
  obtain ⟨rfl, R1⟩ := R1
  obtain ⟨o, e, hW1⟩ := hW1.lift1
  unfold mkDT at e
  split at e <;> cases e
  rename_i z
  exact ⟨by rw [← R1.length]; exact sizeLine_le.mp z, fin_newT R1 (fun b hb => S1.fresh hb) (fin_shared S1 hW1)⟩
/-! ### subscripts -/
noncomputable def dIdx : D → D → Option D
  | .list xs, .int i => atI xs i
  | .tuple xs, .int i => atI xs i
  | .str z, .int i => @ite _ (z.length ≤ 16777216) (Classical.propDecidable _) ((atI z.cps.toList i).map fun c => .str ⟨#[c]⟩) none
  | _, _ => none
theorem RepDs.atI {A : List Addr} {H : Hp} {ds : List D} {vs : List V} {i : Int} {d : D} (h : RepDs A H ds vs) (e : L2.atI ds i = some d) : ∃ v, L2.atI vs i = some v ∧ RepD A H d v := by
  unfold L2.atI at e ⊢
  obtain ⟨j, h1, h2⟩ := Option.bind_eq_some_iff.mp e
  obtain ⟨v, h3, h4⟩ := h.get h2
  exact ⟨v, by rw [← h.length, h1]; exact h3, h4⟩
theorem od_ix : IxR X (rDD dIdx) := by
  intro value slice pins s σ H x y v u Q I rx ry h hs
  obtain ⟨A, dx, dy, d, r1, r2, e, na, q⟩ := h
  have fin : rIx X.K x y H Q := by
    unfold dIdx at e
    split at e
    · cases r2
      cases r1 with
      | lst n1 h1 s1 =>
        obtain ⟨w, e1, R⟩ := s1.atI e
        exact .inl ⟨_, _, _, w, rfl, rfl, .inl h1, e1, q _ _ (fun _ _ h => h) R⟩
    · cases r2
      cases r1 with
      | tup n1 h1 s1 =>
        obtain ⟨w, e1, R⟩ := s1.atI e
        exact .inr (.inl ⟨_, _, _, w, rfl, rfl, .inl (.inl h1), e1, q _ _ (fun _ _ h => h) R⟩)
    · split at e <;> simp only [Option.map_eq_some_iff, reduceCtorEq] at e
      rename_i z
      obtain ⟨c, e1, rfl⟩ := e
      cases r1; cases r2
      exact .inr (.inr ⟨_, _, c, rfl, rfl, sizeLine_le.mp z, e1, q _ _ (fun _ _ h => h) (.str _)⟩)
    · cases e
  exact ix_seq value slice pins s σ H x y v u Q I rx ry fin hs
theorem dx_ix (h1 : DX X a fx) (h2 : DX X b gx) (hs : PlainIx b := by exact fun _ _ => rfl) : DX X (.Subscript a b pos) (M.bind fx fun x => M.bind gx fun y => M.lift (dIdx x y)) := by
  refine ⟨fun W tk σ H Γ fp rest Q S hW => we (pe_ix od_ix pe_w pe_w hs) ?_⟩
  refine h1.thn tk S hW fun dx Γ1 x H1 fo fp1 S1 R1 G1 hW1 => ?_
  obtain ⟨rfl, R1⟩ := R1
  refine h2.thn tk S1 hW1 fun dy Γ2 y H2 fo fp2 S2 R2 G2 hW2 => ?_
  obtain ⟨rfl, R2⟩ := R2
  obtain ⟨d, e, hW2⟩ := hW2.lift1
  exact ⟨fp2 ++ rest, dx, dy, d, G2.repD R1, R2, e, fun b hb => S2.fresh hb, fin_shared S2 hW2⟩
end
end DS
namespace DS
open PySem PySem.Spec PyProof.Rows L2
/-! ### statements -/
inductive Fl where
  | nx
  | bk
  | ct
  | rt (o : O)
  | ex (e : Xn)
abbrev SF := Env → Option (Fl × Env)
def WpS (X : Cx) (W : WX) (pin : List Nat) (fp rest : List Addr) (H : Hp) (σ : St) (r : Option (Fl × Env)) (D : Ends) : Prop :=
  match r with
  | none => False
  | some (.nx, Γ') => ∀ σ' H' fp', SOk H' Γ' σ' fp' rest → Go fp H fp' H' → (∀ i ∈ pin, σ'[i]? = σ[i]?) → D.nx σ' H'
  | some (.bk, Γ') => ∀ σ' H' fp', SOk H' Γ' σ' fp' rest → Go fp H fp' H' → (∀ i ∈ pin, σ'[i]? = σ[i]?) → D.bk σ' H'
  | some (.ct, Γ') => ∀ σ' H' fp', SOk H' Γ' σ' fp' rest → Go fp H fp' H' → (∀ i ∈ pin, σ'[i]? = σ[i]?) → D.ct σ' H'
  | some (.rt o, Γ') => ∀ v σ' H' fo fp', SOk H' Γ' σ' fp' (fo ++ rest) → RepO (fp' ++ (fo ++ rest)) H' o v fo → Go fp H (fo ++ fp') H' → (∀ i ∈ pin, σ'[i]? = σ[i]?) → D.rt v H'
  | some (.ex ε, Γ') => ∀ cls d σ' H' fp', SOk H' Γ' σ' fp' rest → XRep X (fp' ++ rest) H' ε cls d → Go fp H fp' H' → (∀ i ∈ pin, σ'[i]? = σ[i]?) → W cls d σ' H'
structure Js (X : Cx) (pin : List Nat) (w : TS) (f : SF) : Prop where
  run : ∀ W, Takes X W → PassesOwn (model X.prog X.w) X.A X.env X.xe → ∀ σ H Γ fp rest D, SOk H Γ σ fp rest → WpS X W pin fp rest H σ (f Γ) D → w D σ H
abbrev DSt (X : Cx) (pin : List Nat) (st : Stmt) (f : SF) : Prop := Js X pin (wS X st) f
abbrev DSs (X : Cx) (pin : List Nat) (st : List Stmt) (f : SF) : Prop := Js X pin (wSs X st) f
theorem WpS.rebase {X : Cx} {W : WX} {pin : List Nat} {f0 f1 rest : List Addr} {H H1 : Hp} {σ σ1 : St} {r : Option (Fl × Env)} {D : Ends} (g : Go f0 H f1 H1) (p : ∀ i ∈ pin, σ1[i]? = σ[i]?) (h : WpS X W pin f0 rest H σ r D) : WpS X W pin f1 rest H1 σ1 r D := by
  match r, h with
  | some (.nx, Γ'), h => exact fun σ' H' fp' S G q => h σ' H' fp' S (g.trans G) fun i m => (q i m).trans (p i m)
  | some (.bk, Γ'), h => exact fun σ' H' fp' S G q => h σ' H' fp' S (g.trans G) fun i m => (q i m).trans (p i m)
  | some (.ct, Γ'), h => exact fun σ' H' fp' S G q => h σ' H' fp' S (g.trans G) fun i m => (q i m).trans (p i m)
  | some (.rt o, Γ'), h => exact fun v σ' H' fo fp' S R G q => h v σ' H' fo fp' S R (g.trans G) fun i m => (q i m).trans (p i m)
  | some (.ex ε, Γ'), h => exact fun c d σ' H' fp' S R G q => h c d σ' H' fp' S R (g.trans G) fun i m => (q i m).trans (p i m)
namespace Sf
def seq (f g : SF) : SF := fun Γ => match f Γ with
  | some (.nx, Γ1) => g Γ1
  | r => r
def of {α : Type} (x : M α) (k : α → SF) : SF := fun Γ => match x Γ with
  | none => none
  | some (.ex e, Γ1) => some (.ex e, Γ1)
  | some (.ok a, Γ1) => k a Γ1
def nx : SF := fun Γ => some (.nx, Γ)
def bk : SF := fun Γ => some (.bk, Γ)
def ct : SF := fun Γ => some (.ct, Γ)
def rt (o : O) : SF := fun Γ => some (.rt o, Γ)
def ex (e : Xn) : SF := fun Γ => some (.ex e, Γ)
def never : SF := fun _ => none
def put (i : Nat) (o : O) : SF := fun Γ => some (.nx, Γ.set i (some o))
def puts (g : Env → Option Env) : SF := fun Γ => match g Γ with
  | none => none
  | some Γ' => some (.nx, Γ')
def ite (c : M Bool) (f g : SF) : SF := of c fun k => if k = true then f else g
end Sf
/-- an expression, then what follows -/
theorem Jd.thnS {α β : Type} {X : Cx} {w1 : St → Hp → (β → Hp → Prop) → Prop} {rep1 : Rp α β} {f : M α} {g : α → SF} (h1 : Jd X w1 rep1 f) {W : WX} (tk : Takes X W) {pin : List Nat}
    {σ : St} {H : Hp} {Γ : Env} {fp rest : List Addr} {D : Ends} {Q1 : β → Hp → Prop} (S : SOk H Γ σ fp rest) (hW : WpS X W pin fp rest H σ (Sf.of f g Γ) D)
    (next : ∀ a Γ1 v H1 fo fp1, SOk H1 Γ1 σ fp1 (fo ++ rest) → rep1 (fp1 ++ (fo ++ rest)) H1 a v fo → Go fp H (fo ++ fp1) H1 → WpS X W pin (fo ++ fp1) rest H1 σ (g a Γ1) D → Q1 v H1) : w1 σ H Q1 := by
  refine h1.run W tk σ H Γ fp rest Q1 S ?_
  unfold Sf.of at hW
  cases e : f Γ with
  | none => rw [e] at hW; exact hW.elim
  | some r =>
    obtain ⟨r, Γ1⟩ := r
    rw [e] at hW
    cases r with
    | ok a => exact fun v H' fo fp' S' R G => next a Γ1 v H' fo fp' S' R G (hW.rebase G fun _ _ => rfl)
    | ex ε => exact fun cls d H' fp' S' R' G' => hW cls d σ H' fp' S' R' G' fun _ _ => rfl
section
variable {X : Cx} {pin : List Nat} {a b c e : Expr} {st : Stmt} {sts : List Stmt} {f g : SF} {pos : Pos}
theorem dss_nil : DSs X pin [] Sf.nx := ⟨fun W tk po σ H Γ fp rest D S hW => wss pss_nil (hW σ H fp S (Go.refl _ _) fun _ _ => rfl)⟩
theorem seq_core {w1 w2 : TS} (h1 : Js X pin w1 f) (h2 : Js X pin w2 g) : Js X pin (fun D σ H => w1 { D with nx := w2 D } σ H) (Sf.seq f g) := by
  refine ⟨fun W tk po σ H Γ fp rest D S hW => h1.run W tk po σ H Γ fp rest _ S ?_⟩
  unfold Sf.seq at hW
  match e : f Γ, hW with
  | none, hW => exact hW.elim
  | some (.nx, Γ1), hW =>
    exact fun σ' H' fp' S' G p => h2.run W tk po σ' H' Γ1 fp' rest D S' (WpS.rebase G p hW)
  | some (.bk, Γ1), hW => exact hW
  | some (.ct, Γ1), hW => exact hW
  | some (.rt o, Γ1), hW => exact hW
  | some (.ex ε, Γ1), hW => exact hW
theorem dss_cons (h1 : DSt X pin st f) (h2 : DSs X pin sts g) : DSs X pin (st :: sts) (Sf.seq f g) :=
  ⟨fun W tk po σ H Γ fp rest D S hW => wss (pss_cons ps_w pss_w) ((seq_core h1 h2).run W tk po σ H Γ fp rest D S hW)⟩
theorem dss_one (h1 : DSt X pin st f) : DSs X pin [st] f := ⟨fun W tk po σ H Γ fp rest D S hW => wss (pss_one ps_w) (h1.run W tk po σ H Γ fp rest D S hW)⟩
theorem ds_never : DSt X pin st Sf.never := ⟨fun W tk po σ H Γ fp rest D S hW => hW.elim⟩
theorem dss_never : DSs X pin sts Sf.never := ⟨fun W tk po σ H Γ fp rest D S hW => hW.elim⟩
theorem ds_pass : DSt X pin (.Pass pos) Sf.nx := ⟨fun W tk po σ H Γ fp rest D S hW => ws ps_pass (hW σ H fp S (Go.refl _ _) fun _ _ => rfl)⟩
theorem ds_break : DSt X pin (.Break pos) Sf.bk := ⟨fun W tk po σ H Γ fp rest D S hW => ws ps_break (hW σ H fp S (Go.refl _ _) fun _ _ => rfl)⟩
theorem ds_continue : DSt X pin (.Continue pos) Sf.ct := ⟨fun W tk po σ H Γ fp rest D S hW => ws ps_continue (hW σ H fp S (Go.refl _ _) fun _ _ => rfl)⟩
/-- what a value owned and nobody holds any more -/
theorem SOk.let_go {H : Hp} {Γ : Env} {σ : St} {fp fo rest : List Addr} (S : SOk H Γ σ fp (fo ++ rest)) : SOk H Γ σ fp rest ∧ Go (fo ++ fp) H fp H :=
  ⟨S.drop, ⟨fun _ _ e _ => e, fun _ h => .inl (List.mem_append_right _ h)⟩⟩
theorem ds_expr {fo : M O} (h : DE X e fo) (hs : swapsWith e none pos.line X.env = pure false := by rfl) : DSt X pin (.Expr e pos) (Sf.of fo fun _ => Sf.nx) := by
  refine ⟨fun W tk po σ H Γ fp rest D S hW => ws (ps_expr pe_w hs) ?_⟩
  refine h.thnS tk S hW fun d Γ1 x H1 f1 fp1 S1 R1 G1 hW1 => ?_
  exact hW1 σ H1 fp1 S1.let_go.1 S1.let_go.2 fun _ _ => rfl
theorem ds_ret {fo : M O} (h : DE X e fo) : DSt X pin (.Return (some e) pos) (Sf.of fo Sf.rt) := by
  refine ⟨fun W tk po σ H Γ fp rest D S hW => ws (ps_ret pe_w) ?_⟩
  refine h.thnS tk S hW fun d Γ1 x H1 f1 fp1 S1 R1 G1 hW1 => ?_
  exact hW1 x σ H1 f1 fp1 S1 R1 (Go.refl _ _) fun _ _ => rfl
theorem ds_retN : DSt X pin (.Return none pos) (Sf.rt (.sh .none)) :=
  ⟨fun W tk po σ H Γ fp rest D S hW => ws ps_retN (hW .non σ H [] fp S (.sh .non) (Go.refl _ _) fun _ _ => rfl)⟩
theorem ds_if {cc : M Bool} {t u : List Stmt} (hc : DT X c cc) (h1 : DSs X pin t f) (h2 : DSs X pin u g) : DSt X pin (.If c t u pos) (Sf.ite cc f g) := by
  refine ⟨fun W tk po σ H Γ fp rest D S hW => ws (ps_if pt_w pss_w pss_w) ?_⟩
  refine hc.thnS tk S hW fun k Γ1 x H1 f1 fp1 S1 R1 G1 hW1 => ?_
  obtain ⟨rfl, rfl⟩ := R1
  cases k with
  | true => exact h1.run W tk po σ H1 Γ1 fp1 rest D S1 hW1
  | false => exact h2.run W tk po σ H1 Γ1 fp1 rest D S1 hW1
/-! ### names stored -/
theorem SOk.put {H : Hp} {Γ : Env} {σ : St} {fp fo rest : List Addr} {i : Nat} {o : O} {v : V} (S : SOk H Γ σ fp (fo ++ rest)) (R : RepO (fp ++ (fo ++ rest)) H o v fo) (hi : i < Γ.length) :
    ∃ fp', SOk H (Γ.set i (some o)) (σ.set i (some v)) fp' rest ∧ Go (fo ++ fp) H fp' H := by
  obtain ⟨f1, f2, g, h1, h2, h3⟩ := S.env.put hi
  subst h1
  have sub : ∀ b ∈ f1 ++ fo ++ f2 ++ rest, b ∈ f1 ++ g ++ f2 ++ (fo ++ rest) := fun b h => by
    simp only [List.mem_append] at h ⊢
    rcases h with ((h | h) | h) | h
    · exact .inl (.inl (.inl h))
    · exact .inr (.inl h)
    · exact .inl (.inr h)
    · exact .inr (.inr h)
  have p : (f1 ++ f2 ++ (fo ++ rest)).Perm (f1 ++ fo ++ f2 ++ rest) := by
    rw [List.append_assoc, List.append_assoc, List.append_assoc]
    refine List.Perm.append_left f1 ?_
    rw [← List.append_assoc, ← List.append_assoc]
    exact List.Perm.append_right rest List.perm_append_comm
  refine ⟨f1 ++ fo ++ f2, ⟨h3 _ H (fun b u e n => ⟨e, fun q => n (sub b q)⟩) (fun b u e _ => e) o v fo (R.congr sub), p.nodup_iff.mp (S.nd.sublist (List.Sublist.append (List.Sublist.append (List.sublist_append_left _ _) (List.Sublist.refl _)) (List.Sublist.refl _))), fun a h => S.trk a (sub a h)⟩, ⟨fun b u e _ => e, fun b h => .inl ?_⟩⟩
  simp only [List.mem_append] at h ⊢
  rcases h with (h | h) | h
  · exact .inr (.inl (.inl h))
  · exact .inl h
  · exact .inr (.inr h)
theorem pin_set {σ : St} {i : Nat} {x : Option V} (h : pin.contains i = false) : ∀ j ∈ pin, (σ.set i x)[j]? = σ[j]? := fun j m => by
  have ne : i ≠ j := fun e => by
    subst e
    rw [List.contains_iff_mem.mpr m] at h
    cases h
  exact List.getElem?_set_ne ne
def pinR (pin : List Nat) : St → St → Prop := fun σ σ' => ∀ i ∈ pin, σ'[i]? = σ[i]?
/-- a target of a store, told of data; Rl: what it keeps of the slots -/
structure DG (X : Cx) (Rl : St → St → Prop) (tg : Expr) (g : D → Env → Option Env) : Prop where
  run : ∀ σ H Γ fp rest d v Γ' Q, SOk H Γ σ fp rest → RepD (fp ++ rest) H d v → g d Γ = some Γ' →
    (∀ σ' H' fp', SOk H' Γ' σ' fp' rest → Go fp H fp' H' → Rl σ σ' → Q σ' H') → wG X tg v σ H Q
variable {Rl : St → St → Prop}
def gPut (i : Nat) : D → Env → Option Env := fun d Γ => if i < Γ.length then some (Γ.set i (some (.sh d))) else none
theorem dg_core (i : Nat) {x : Str} {p : Pos} (hN : X.N.Nodup) (hi : X.N[i]? = some x) (hx : Loc X.env.scope x) (hp : ∀ σ v, Rl σ (σ.set i v))
    (hf : X.fn x = true ∨ X.env.scope.names.lookup x = some .local) : DG X Rl (.Name x p) (gPut i) := by
  refine ⟨fun σ H Γ fp rest d v Γ' Q S R e q => wg (pg_name hN hi hx hf) ?_⟩
  unfold gPut at e
  split at e <;> cases e
  rename_i hl
  obtain ⟨fp', S', G⟩ := SOk.put (fo := []) (o := .sh d) S (.sh R) hl
  exact q _ _ fp' S' G (hp _ _)
theorem dg_name (i : Nat) {x : Str} {p : Pos} (hN : X.N.Nodup) (hi : X.N[i]? = some x := by rfl) (hx : Loc X.env.scope x := by first | exact Or.inl rfl | exact Or.inr rfl) (hp : pin.contains i = false := by rfl)
    (hf : X.fn x = true ∨ X.env.scope.names.lookup x = some .local := by first | exact .inl rfl | exact .inr rfl | assumption) : DG X (pinR pin) (.Name x p) (gPut i) := dg_core i hN hi hx (fun _ _ => pin_set hp) hf
structure DGs (X : Cx) (Rl : St → St → Prop) (ts : List Expr) (g : List D → Env → Option Env) : Prop where
  run : ∀ σ H Γ fp rest ds vs Γ' (Q : St → Hp → Prop), SOk H Γ σ fp rest → RepDs (fp ++ rest) H ds vs → g ds Γ = some Γ' →
    (∀ σ' H' fp', SOk H' Γ' σ' fp' rest → Go fp H fp' H' → Rl σ σ' → Q σ' H') → ∀ pins s us, Inv X pins σ H s → Vals vs us →
    wpAny (model X.prog X.w) X.A (assignInOrder ((assignEach ts X.env).map (·.2)) us) (fun _ s' => ∃ σ' H', Inv X pins σ' H' s' ∧ Q σ' H') X.xe s
/-- what is kept is kept on and on -/
class Chain (Rl : St → St → Prop) : Prop where
  refl : ∀ σ, Rl σ σ
  trans : ∀ σ1 σ2 σ3, Rl σ1 σ2 → Rl σ2 σ3 → Rl σ1 σ3
instance : Chain (pinR pin) := ⟨fun _ _ _ => rfl, fun _ _ _ a b i m => (b i m).trans (a i m)⟩
def gNilD : List D → Env → Option Env
  | [], Γ => some Γ
  | _, _ => none
def gConsD (g : D → Env → Option Env) (gs : List D → Env → Option Env) : List D → Env → Option Env
  | d :: ds, Γ => (g d Γ).bind (gs ds)
  | _, _ => none
theorem dgs_nil [Chain Rl] : DGs X Rl [] gNilD := by
  refine ⟨fun σ H Γ fp rest ds vs Γ' Q S R e q pins s us I r => ?_⟩
  cases ds with
  | nil =>
    cases R
    cases r
    cases e
    exact assignInOrder_nil ⟨σ, H, I, q _ _ _ S (Go.refl _ _) (Chain.refl _)⟩
  | cons _ _ => cases e
theorem dgs_cons [Chain Rl] {ts : List Expr} {g1 : D → Env → Option Env} {gs : List D → Env → Option Env} (h1 : DG X Rl e g1) (h2 : DGs X Rl ts gs)
    (hs : (assignEach (e :: ts) X.env).map (·.2) = assign e X.env :: (assignEach ts X.env).map (·.2) := by rfl) : DGs X Rl (e :: ts) (gConsD g1 gs) := by
  refine ⟨fun σ H Γ fp rest ds vs Γ' Q S R e q pins s us I r => ?_⟩
  cases ds with
  | nil => cases e
  | cons d ds =>
    cases R with
    | cons R1 R2 =>
      cases r with
      | cons r1 r2 =>
        obtain ⟨Γ1, e1, e2⟩ := Option.bind_eq_some_iff.mp e
        rw [hs]
        have k : wG X _ _ σ H (fun σ1 H1 => ∃ fp1, SOk H1 Γ1 σ1 fp1 rest ∧ Go fp H fp1 H1 ∧ Rl σ σ1) := h1.run σ H Γ fp rest d _ Γ1 _ S R1 e1 fun σ' H' fp' S' G' p' => ⟨fp', S', G', p'⟩
        refine assignInOrder_cons (thn (k pins s _ I r1) fun _ s1 ⟨σ1, H1, I1, fp1, S1, G1, p1⟩ => ?_)
        exact h2.run σ1 H1 Γ1 fp1 rest ds _ Γ' Q S1 (G1.repDs R2) e2 (fun σ' H' fp' S' G' p' => q σ' H' fp' S' (G1.trans G') (Chain.trans _ _ _ p1 p')) pins s1 _ I1 r2
def gTupD (n : Nat) (gs : List D → Env → Option Env) : D → Env → Option Env
  | .tuple ds, Γ => if ds.length = n then gs ds Γ else none
  | _, _ => none
theorem dg_tup {es : List Expr} {k : Nat} {gs : List D → Env → Option Env} {n : Nat} (hc : X.calm = true) (h : DGs X Rl es gs)
    (hn : (assignEach es X.env).length = n := by rfl) (hst : (assignEach es X.env).findIdx? (·.1) = none := by rfl) : DG X Rl (.Tuple es k pos) (gTupD n gs) := by
  refine ⟨fun σ H Γ fp rest d v Γ' Q S R e q => ?_⟩
  unfold gTupD at e
  cases R with
  | tup n1 h1 s1 =>
    simp only at e
    split at e
    · rename_i hl
      intro pins s u I r
      cases r
      obtain ⟨its, rv, ht, hz⟩ := I.tuple (.inl (.inl h1))
      refine assign_Tuple_tuple (I.ok.hd hc) ht (by rw [hn, ← hl, s1.length, rv.length, List.size_toArray]) hst fun h' hx => ?_
      have I1 : Inv X pins σ H { s with heap := h' } := I.kept (t' := s.toks) fun b o e => hx b o (Nat.ne_of_lt (Heap.lt_size e)) e
      exact h.run σ H Γ fp rest _ _ Γ' Q S s1 e q pins _ _ I1 (by simpa using rv)
    · cases e
  | _ => cases e
/-- target = e, told of shared data -/
theorem ds_asg {tg : Expr} {fx : M D} {gt : D → Env → Option Env} (h : DX X e fx) (hg : DG X (pinR pin) tg gt) (hs : swapsWithSole [tg] e pos.line X.env = pure false := by rfl) (hw : swappedStores [tg] e X.env = pure none := by rfl)
    (h1 : (assignEach [tg] X.env).map (·.2) = [assign tg X.env] := by rfl) : DSt X pin (.Assign [tg] e pos) (Sf.of fx fun d => Sf.puts (gt d)) := by
  refine ⟨fun W tk po σ H Γ fp rest D S hW => ws (ps_asg pe_w pg_w hs hw h1) ?_⟩
  refine h.thnS tk S hW fun d Γ1 x H1 f1 fp1 S1 R1 G1 hW1 => ?_
  obtain ⟨rfl, R1⟩ := R1
  unfold Sf.puts at hW1
  cases e1 : gt d Γ1 with
  | none => rw [e1] at hW1; exact hW1.elim
  | some Γ2 => rw [e1] at hW1; exact hg.run σ H1 Γ1 fp1 rest d x Γ2 _ S1 R1 e1 hW1
def Sf.putO (i : Nat) (o : O) : SF := fun Γ => if i < Γ.length then some (.nx, Γ.set i (some o)) else none
/-- name = e; what is new is owned -/
theorem ds_set (i : Nat) {x : Str} {fo : M O} {pos' : Pos} (h : DE X e fo) (hN : X.N.Nodup) (hi : X.N[i]? = some x := by rfl) (hx : Loc X.env.scope x := by first | exact Or.inl rfl | exact Or.inr rfl) (hp : pin.contains i = false := by rfl)
    (hs : swapsWith e (some (.Name x pos')) pos.line X.env = pure false := by rfl) (hf : X.fn x = true ∨ X.env.scope.names.lookup x = some .local := by first | exact .inl rfl | exact .inr rfl | assumption) :
    DSt X pin (.Assign [.Name x pos'] e pos) (Sf.of fo (Sf.putO i)) := by
  refine ⟨fun W tk po σ H Γ fp rest D S hW => ws (ps_set hN hi hx pe_w hs hf) ?_⟩
  refine h.thnS tk S hW fun d Γ1 x H1 f1 fp1 S1 R1 G1 hW1 => ?_
  unfold Sf.putO at hW1
  split at hW1
  · rename_i hl
    obtain ⟨fp', S', G⟩ := SOk.put S1 R1 hl
    exact hW1 _ _ fp' S' G (pin_set hp)
  · exact hW1.elim
/-- name op= e -/
def M.cur (i : Nat) : M D := M.look i fun o => match o with
  | .sh d => some d
  | _ => none
theorem ds_aug (i : Nat) {x : Str} {fx : M D} {op : Operator} {g : D → D → Option D} {pos' : Pos} (ho : OpD X (inplaceOp op) g) (h : DX X e fx) (hN : X.N.Nodup) (hi : X.N[i]? = some x := by rfl) (hx : Loc X.env.scope x := by first | exact Or.inl rfl | exact Or.inr rfl) (hp : pin.contains i = false := by rfl)
    (hf : X.fn x = true ∨ X.env.scope.names.lookup x = some .local := by first | exact .inl rfl | exact .inr rfl | assumption) :
    DSt X pin (.AugAssign (.Name x pos') op e pos) (Sf.of (M.cur i) fun a => Sf.of fx fun b => Sf.of (M.lift (g a b)) fun d => Sf.putO i (.sh d)) := by
  refine ⟨fun W tk po σ H Γ fp rest D S hW => ws (ps_aug hN hi hx pe_w (fun pins s σ H x y v u Q I rx ry q => ho pins s σ H x y v u Q I rx ry q) hf) ?_⟩
  unfold Sf.of M.cur M.look at hW
  cases e0 : Γ[i]? with
  | none => rw [e0] at hW; exact hW.elim
  | some r =>
    rw [e0] at hW
    cases r with
    | none => exact hW.elim
    | some o =>
      cases o with
      | sh da =>
        obtain ⟨v, fo, f1, f2, h1, h2, _⟩ := S.env.split e0
        cases h2 with
        | sh R =>
          refine ⟨v, h1, ?_⟩
          refine h.thnS (g := fun b => Sf.of (M.lift (g da b)) fun d => Sf.putO i (.sh d)) tk S hW fun db Γ1 x H1 f1 fp1 S1 R1 G1 hW1 => ?_
          obtain ⟨rfl, R1⟩ := R1
          unfold Sf.of M.lift at hW1
          cases e1 : g da db with
          | none => rw [e1] at hW1; exact hW1.elim
          | some d =>
            rw [e1] at hW1
            refine ⟨fp1 ++ rest, da, db, d, G1.repD R, R1, e1, fun b hb => S1.fresh hb, fun v' H' k R' => ?_⟩
            have hW2 : WpS X W pin fp1 rest H1 σ (Sf.putO i (.sh d) Γ1) D := hW1
            unfold Sf.putO at hW2
            split at hW2
            · rename_i hl
              obtain ⟨fp', S', G⟩ := SOk.put (fo := []) (o := .sh d) (S1.grow k) (.sh R') hl
              exact hW2 _ _ fp' S' ((Go.grow k fp1).trans G) (pin_set hp)
            · exact hW2.elim
      | lst l => exact hW.elim
      | tup l => exact hW.elim
      | dic l => exact hW.elim
/-! ### for -/
def ItOk (J : It) (ds : List D) (A0 : List Addr) (H0 : Hp) : Prop := ∀ i H A, (∀ b u, H0 b = some u → b ∉ A0 → H b = some u ∧ b ∉ A) → (∀ b, H b = none → b ∉ A) →
  (∀ d, ds[i]? = some d → J.go i H ∧ ∀ x H', J.yld i H x H' → (∀ b u, H b = some u → H' b = some u) ∧ RepD A H' d x) ∧ (ds.length ≤ i → J.stop i H)
def repI : Rp (List D) It := fun A H ds J fo => fo = [] ∧ ItOk J ds A H
abbrev DI (X : Cx) (tg iter : Expr) (f : M (List D)) : Prop := Jd X (wI X tg iter) repI f
def forS (g : D → Env → Option Env) (body : SF) : List D → SF
  | [], Γ => some (.nx, Γ)
  | d :: ds, Γ => match g d Γ with
    | none => none
    | some Γ1 => match body Γ1 with
      | some (.nx, Γ2) => forS g body ds Γ2
      | some (.ct, Γ2) => forS g body ds Γ2
      | some (.bk, Γ2) => some (.nx, Γ2)
      | r => r
theorem ds_for {tg iter : Expr} {body : List Stmt} {fi : M (List D)} {gt : D → Env → Option Env} (hc : X.calm = true) (hi : DI X tg iter fi) (hg : DG X (pinR pin) tg gt) (hb : DSs X pin body f)
    (hs : ∀ x, foldedSetIterable iter X.env x = pure x := by intro _; rfl) : DSt X pin (.For tg iter body [] pos) (Sf.of fi (forS gt f)) := by
  refine ⟨fun W tk po σ H Γ fp rest D S hW => ws (ps_for po hc pi_w pg_w pss_w hs) ?_⟩
  refine hi.thnS tk S hW fun ds Γ1 J H1 f1 fp1 S1 R1 G1 hW1 => ?_
  obtain ⟨rfl, R1⟩ := R1
  have hW1 : WpS X W pin fp1 rest H1 σ (forS gt f ds Γ1) D := hW1
  have S1 : SOk H1 Γ1 σ fp1 rest := S1
  have R1 : ItOk J ds (fp1 ++ rest) H1 := R1
  refine ⟨fun i m σ' H' => m = ds.length - i ∧ i ≤ ds.length ∧ ∃ Γi fpi, SOk H' Γi σ' fpi rest ∧ Go fp1 H1 fpi H' ∧ (∀ j ∈ pin, σ'[j]? = σ[j]?) ∧ WpS X W pin fpi rest H' σ' (forS gt f (ds.drop i) Γi) D,
    ⟨_, rfl, Nat.zero_le _, Γ1, fp1, S1, Go.refl _ _, fun _ _ => rfl, hW1⟩, ?_⟩
  rintro i m σ' H' ⟨rfl, hi, Γi, fpi, Si, Gi, pi, Wi⟩
  have it := R1 i H' (fpi ++ rest) Gi.still (fun b hb => Si.fresh hb)
  by_cases hlt : i < ds.length
  · right
    have hd : ds[i]? = some ds[i] := List.getElem?_eq_getElem hlt
    obtain ⟨go, yl⟩ := it.1 _ hd
    have hdrop : ds.drop i = ds[i] :: ds.drop (i + 1) := List.drop_eq_getElem_cons hlt
    rw [hdrop] at Wi
    refine ⟨go, fun σ2 H2 => ∃ Γ2 fp2, SOk H2 Γ2 σ2 fp2 rest ∧ Go fp1 H1 fp2 H2 ∧ (∀ j ∈ pin, σ2[j]? = σ[j]?) ∧ WpS X W pin fp2 rest H2 σ2 (forS gt f (ds.drop (i + 1)) Γ2) D, fun σ2 H2 ⟨Γ2, fp2, h1, h2, h3, h4⟩ => ⟨_, by omega, rfl, hlt, Γ2, fp2, h1, h2, h3, h4⟩, fun x H2 y => ?_⟩
    obtain ⟨k, Rx⟩ := yl x H2 y
    have S2 := Si.grow k
    have G2 := Go.grow k fpi
    unfold forS at Wi
    cases e1 : gt ds[i] Γi with
    | none => rw [e1] at Wi; exact Wi.elim
    | some Γ2 =>
      rw [e1] at Wi
      have Wi : WpS X W pin fpi rest H' σ' (match f Γ2 with
        | some (.nx, Γ3) => forS gt f (ds.drop (i + 1)) Γ3
        | some (.ct, Γ3) => forS gt f (ds.drop (i + 1)) Γ3
        | some (.bk, Γ3) => some (.nx, Γ3)
        | r => r) D := Wi
      refine hg.run σ' H2 Γi fpi rest ds[i] x Γ2 _ S2 Rx e1 fun σ3 H3 fp3 S3 G3 p3 => ?_
      refine hb.run W tk po σ3 H3 Γ2 fp3 rest _ S3 ?_
      have G03 : Go fpi H' fp3 H3 := G2.trans G3
      match e2 : f Γ2, Wi with
      | none, Wi => exact Wi.elim
      | some (.nx, Γ3), Wi =>
        exact fun σ4 H4 fp4 S4 G4 p4 => ⟨Γ3, fp4, S4, Gi.trans (G03.trans G4), fun j hj => (p4 j hj).trans ((p3 j hj).trans (pi j hj)), WpS.rebase (G03.trans G4) (fun j hj => (p4 j hj).trans (p3 j hj)) Wi⟩
      | some (.ct, Γ3), Wi =>
        exact fun σ4 H4 fp4 S4 G4 p4 => ⟨Γ3, fp4, S4, Gi.trans (G03.trans G4), fun j hj => (p4 j hj).trans ((p3 j hj).trans (pi j hj)), WpS.rebase (G03.trans G4) (fun j hj => (p4 j hj).trans (p3 j hj)) Wi⟩
      | some (.bk, Γ3), Wi =>
        exact fun σ4 H4 fp4 S4 G4 p4 => Wi σ4 H4 fp4 S4 (G03.trans G4) fun j hj => (p4 j hj).trans (p3 j hj)
      | some (.rt o, Γ3), Wi => exact WpS.rebase G03 p3 Wi
      | some (.ex ε, Γ3), Wi => exact WpS.rebase G03 p3 Wi
  · left
    have e : i = ds.length := by omega
    subst e
    rw [List.drop_length] at Wi
    exact ⟨it.2 (Nat.le_refl _), Wi σ' H' fpi Si (Go.refl _ _) fun _ _ => rfl⟩
/-! ### while -/
def whileN (c : M Bool) (body : SF) : Nat → SF
  | 0, _ => none
  | n + 1, Γ => match c Γ with
    | none => none
    | some (.ex e, Γ1) => some (.ex e, Γ1)
    | some (.ok k, Γ1) => if k = true then (match body Γ1 with
        | some (.nx, Γ2) => whileN c body n Γ2
        | some (.ct, Γ2) => whileN c body n Γ2
        | some (.bk, Γ2) => some (.nx, Γ2)
        | r => r) else some (.nx, Γ1)
open Classical in
noncomputable def whileS (c : M Bool) (body : SF) : SF := fun Γ => if h : ∃ n r, whileN c body n Γ = some r then whileN c body (choose h) Γ else none
theorem whileN_mono {c : M Bool} {body : SF} : ∀ (n : Nat) (Γ : Env) (r : Fl × Env) (m : Nat), n ≤ m → whileN c body n Γ = some r → whileN c body m Γ = some r
  | 0, _, _, _, _, h => by simp [whileN] at h
  | n + 1, Γ, r, 0, hm, h => absurd hm (by omega)
  | n + 1, Γ, r, m + 1, hm, h => by
    unfold whileN at h ⊢
    match e : c Γ, h with
    | none, h => simp at h
    | some (.ex ε, Γ1), h => exact h
    | some (.ok k, Γ1), h =>
      simp only at h ⊢
      cases k with
      | false => exact h
      | true =>
        rw [if_pos rfl] at h ⊢
        match e2 : body Γ1, h with
        | none, h => simp at h
        | some (.nx, Γ2), h => exact whileN_mono n Γ2 r m (by omega) h
        | some (.ct, Γ2), h => exact whileN_mono n Γ2 r m (by omega) h
        | some (.bk, Γ2), h => exact h
        | some (.rt o, Γ2), h => exact h
        | some (.ex ε, Γ2), h => exact h
theorem whileS_of {c : M Bool} {body : SF} {n : Nat} {Γ : Env} {r : Fl × Env} (h : whileN c body n Γ = some r) : whileS c body Γ = some r := by
  unfold whileS
  have hx : ∃ n r, whileN c body n Γ = some r := ⟨n, r, h⟩
  rw [dif_pos hx]
  obtain ⟨r', h'⟩ := Classical.choose_spec hx
  have a := whileN_mono _ _ _ (max n (Classical.choose hx)) (by omega) h
  have b := whileN_mono _ _ _ (max n (Classical.choose hx)) (by omega) h'
  rw [h', ← a, b]
theorem ds_while {body : List Stmt} {cc : M Bool} (hc : DT X c cc) (hb : DSs X pin body f) : DSt X pin (.While c body [] pos) (whileS cc f) := by
  refine ⟨fun W tk po σ H Γ fp rest D S hW => ws (ps_while po pt_w pss_w) ?_⟩
  unfold whileS at hW
  split at hW
  · rename_i hx
    refine ⟨fun m σ' H' => ∃ Γi fpi, SOk H' Γi σ' fpi rest ∧ Go fp H fpi H' ∧ (∀ j ∈ pin, σ'[j]? = σ[j]?) ∧ WpS X W pin fpi rest H' σ' (whileN cc f m Γi) D, ⟨_, Γ, fp, S, Go.refl _ _, fun _ _ => rfl, hW⟩, ?_⟩
    rintro m σ' H' ⟨Γi, fpi, Si, Gi, pi, Wi⟩
    cases m with
    | zero => exact Wi.elim
    | succ m =>
      refine hc.run W tk σ' H' Γi fpi rest _ Si ?_
      unfold whileN at Wi
      match e : cc Γi, Wi with
      | none, Wi => exact Wi.elim
      | some (.ex ε, Γ1), Wi =>
        exact fun cls d H2 fp2 S2 R2 G2 => Wi cls d σ' H2 fp2 S2 R2 G2 fun _ _ => rfl
      | some (.ok k, Γ1), Wi =>
        intro k' H2 f2 fp2 S2 R2 G2
        obtain ⟨rfl, rfl⟩ := R2
        cases k with
        | false => exact Wi σ' H2 fp2 S2 G2 fun _ _ => rfl
        | true =>
          rw [if_pos rfl]
          have Wi : WpS X W pin fpi rest H' σ' (match f Γ1 with
            | some (.nx, Γ2) => whileN cc f m Γ2
            | some (.ct, Γ2) => whileN cc f m Γ2
            | some (.bk, Γ2) => some (.nx, Γ2)
            | r => r) D := Wi
          refine ⟨fun σ3 H3 => ∃ Γ2 fp3, SOk H3 Γ2 σ3 fp3 rest ∧ Go fp H fp3 H3 ∧ (∀ j ∈ pin, σ3[j]? = σ[j]?) ∧ WpS X W pin fp3 rest H3 σ3 (whileN cc f m Γ2) D, fun σ3 H3 h => ⟨m, Nat.lt_succ_self m, h⟩, ?_⟩
          refine hb.run W tk po σ' H2 Γ1 fp2 rest _ S2 ?_
          have G2 : Go fpi H' fp2 H2 := G2
          match e2 : f Γ1, Wi with
          | none, Wi => exact Wi.elim
          | some (.nx, Γ3), Wi =>
            exact fun σ4 H4 fp4 S4 G4 p4 => ⟨Γ3, fp4, S4, Gi.trans (G2.trans G4), fun j hj => (p4 j hj).trans (pi j hj), WpS.rebase (G2.trans G4) p4 Wi⟩
          | some (.ct, Γ3), Wi =>
            exact fun σ4 H4 fp4 S4 G4 p4 => ⟨Γ3, fp4, S4, Gi.trans (G2.trans G4), fun j hj => (p4 j hj).trans (pi j hj), WpS.rebase (G2.trans G4) p4 Wi⟩
          | some (.bk, Γ3), Wi =>
            exact fun σ4 H4 fp4 S4 G4 p4 => Wi σ4 H4 fp4 S4 (G2.trans G4) p4
          | some (.rt o, Γ3), Wi => exact WpS.rebase G2 (fun _ _ => rfl) Wi
          | some (.ex ε, Γ3), Wi => exact WpS.rebase G2 (fun _ _ => rfl) Wi
  · exact hW.elim
end
end DS
namespace DS
open PySem PySem.Spec PyProof.Rows L2
/-! ### defs: promises told of data -/
structure FnG (P : Program) (w : World) (K : PySem.W.Frag) (mg : Str → Option Value) (base : Heap) (k : Nat) (f : Addr) (fd : FuncData) (ps : List Str) (sp : Sp) : Prop where
  len : ∀ vs H Q E, sp vs H Q E → vs.length = ps.length
  run : ∀ (A : Around) (outer : List PySem.Env) (s : Shared) (H : Hp) (args : Args) (us : List Value) (vs : List V) (Q : VK) (E : XK), Room k A → A.guards = some [] → Env0 P w K mg base A outer s H → BindsTo s fd args (ps.zip us) → Vals vs us → sp vs H Q E →
    codeAny (model P w) A (.call (.ref f) args) (CR (L2.CX P w) outer P w H s Q E) s
theorem FnG.mono {P : Program} {w : World} {K : PySem.W.Frag} {mg : Str → Option Value} {base : Heap} {j k : Nat} {f : Addr} {fd : FuncData} {ps : List Str} {sp : Sp} (F : FnG P w K mg base j f fd ps sp) (h : j ≤ k) : FnG P w K mg base k f fd ps sp :=
  ⟨F.len, fun A outer s H args us vs Q E hr => F.run A outer s H args us vs Q E (hr.mono h)⟩
theorem FnG.imp {P : Program} {w : World} {K : PySem.W.Frag} {mg : Str → Option Value} {base : Heap} {k : Nat} {f : Addr} {fd : FuncData} {ps : List Str} {sp sp' : Sp} (F : FnG P w K mg base k f fd ps sp) (h : ∀ vs H Q E, sp' vs H Q E → sp vs H Q E) : FnG P w K mg base k f fd ps sp' :=
  ⟨fun vs H Q E q => F.len vs H Q E (h _ _ _ _ q), fun A outer s H args us vs Q E hr hg he hb hv hs => F.run A outer s H args us vs Q E hr hg he hb hv (h _ _ _ _ hs)⟩
/-- the context of a def's body -/
abbrev cxG (P : Program) (w : World) (K : PySem.W.Frag) (mg : Str → Option Value) (base : Heap) (N : List Str) (qual : Str) (st : Stmt) (f : Addr) (cdv : Value) (A : Around) (outer : List PySem.Env) (s : Shared) (H : Hp) (E : XK) : Cx :=
  cxOf (L2.CX P w) P w K mg base N qual (defScope st) f cdv A outer s H E
section
variable {P : Program} {w : World} {K : PySem.W.Frag} {mg : Str → Option Value} {base : Heap}
theorem fng_of {k : Nat} {f : Addr} {x qual : Str} {st : Stmt} {fd : FuncData} {N ps : List Str} {sp : Sp} (F : Fun K x qual st f fd) (S : FnScope N ps (defScope st)) (len : ∀ vs H Q E, sp vs H Q E → vs.length = ps.length)
    (hbody : ∀ (cdv : Value) (A : Around) (outer : List PySem.Env) (s : Shared) (H : Hp) (vs : List V) (Q : VK) (E : XK), Room k (cxG P w K mg base N qual st f cdv A outer s H E).A → (cxG P w K mg base N qual st f cdv A outer s H E).A.guards = some [] → sp vs H Q E →
      wSs (cxG P w K mg base N qual st f cdv A outer s H E) (defBody st) { nx := fun _ H' => Q .non H', rt := Q } (L2.start N vs) H) : FnG P w K mg base (k + 1) f fd ps sp := by
  obtain ⟨oc, od, kV, doc, pm, an, cdv, ct, osl, rfl, lk, hcd⟩ := F.ex
  refine ⟨len, fun A outer s H args us vs Q E hr hgd e0 hb r hsp => ?_⟩
  have hl := len _ _ _ _ hsp
  have KX : K.In s.heap := e0.mod.kin.keeps fun b o e => (e0.bs b o e).1
  have lim : s.heap.NoLimit := e0.mod.nolimit.keeps fun b o e => (e0.bs b o e).1
  have hkind : ∀ y ∈ ps.zip us, (defScope st).names.lookup y.1 = some .local ∨ ((defScope st).names.lookup y.1 = some .cell ∧ ((cellsFrom (s.heap.objs.size + 1) (defScope st).names []).lookup y.1).isSome = true) := fun ⟨n, v⟩ hy => by
    rcases S.par n (List.of_mem_zip hy).1 with q | q
    · exact .inl q
    · exact .inr ⟨q, PySem.W.cellsFrom_some _ _ _ (.inl q)⟩
  refine codeAny_call_function hr.depth (KX _ _ lk) rfl S.co S.gen rfl (PySem.W.codeRec_of KX hcd) (hb _ _ _ _ ?_)
  refine wpAny_newFunctionEnv_cells S.kind hkind fun env he s1 x => ?_
  subst he
  refine ⟨lim.keeps x.toInCall.keep, codeAny_func ?_⟩
  have I : Inv (cxG P w K mg base N qual st f cdv A outer s H E) [] (L2.start N vs) H s1 := inv_start S hr.hd e0 hl r x
  refine wpAny_mono (hbody cdv A outer s H vs Q E (hr.deeper _) hgd hsp [] s1 I) (fun fl s' hs => ?_) fun e s' hs => hs
  have fin : ∀ {σ' : St} {H' : Hp} {v : V} {u : Value}, Inv (cxG P w K mg base N qual st f cdv A outer s H E) [] σ' H' s' → RelV v u → Q v H' → CE outer P w H s Q u s' :=
    fun {σ' H' v u} J rv q => ⟨v, H', J.os, J.bare, J.base, J.hok, rv, q⟩
  cases fl with
  | ret u =>
    obtain ⟨v, σ', H', J, rv, q⟩ := hs
    exact fin J rv q
  | next =>
    obtain ⟨σ', H', J, q⟩ := hs
    exact fin (v := V.non) (u := Value.none) J rfl q
  | brk =>
    obtain ⟨_, _, _, q⟩ := hs
    exact False.elim q
  | cont =>
    obtain ⟨_, _, _, q⟩ := hs
    exact False.elim q
theorem takesG {N : List Str} {qual : Str} {st : Stmt} {f : Addr} {cdv : Value} {A : Around} {outer : List PySem.Env} {s : Shared} {H : Hp} {E : XK} : Takes (cxG P w K mg base N qual st f cdv A outer s H E) (fun cls d _ H => E cls d H) := takes_of rfl rfl rfl rfl
theorem passesG {N : List Str} {qual : Str} {st : Stmt} {f : Addr} {cdv : Value} {A : Around} {outer : List PySem.Env} {s : Shared} {H : Hp} {E : XK} : PassesOwn (model P w) (cxG P w K mg base N qual st f cdv A outer s H E).A (cxG P w K mg base N qual st f cdv A outer s H E).env (cxG P w K mg base N qual st f cdv A outer s H E).xe :=
  passes_of (X := cxG P w K mg base N qual st f cdv A outer s H E) rfl
end
/-- an exception, told of data; the module's names by mg -/
def XRepM (mg : Str → Option Value) (A : List Addr) (H : Hp) (ε : Xn) (cls : Value) (d : Option Addr) : Prop :=
  (∃ C, mg ε.cls = some (.ref C) ∧ cls = .ref C) ∧
    match ε.flds with
    | none => d = none
    | some fs => ∃ dd vs, d = some dd ∧ dd ∉ A ∧ H dd = some (.xd ((fs.map (·.1)).zip vs)) ∧ RepDs A H (fs.map (·.2)) vs
def Trk (H : Hp) (A : List Addr) : Prop := ∀ a ∈ A, ∃ u, H a = some u ∧ Ownable u
/-- shared arguments; what comes is new, or shared -/
def spF (mg : Str → Option Value) (n : Nat) (F : List D → Option (Out O)) : Sp := fun vs H Q E => ∃ ds A, ds.length = n ∧ RepDs A H ds vs ∧ A.Nodup ∧ Trk H A ∧
  match F ds with
  | none => False
  | some (.ok o) => ∀ v H' fo, RepO (fo ++ A) H' o v fo → (fo ++ A).Nodup → Trk H' (fo ++ A) → Go [] H fo H' → Q v H'
  | some (.ex ε) => ∀ cls d H', XRepM mg A H' ε cls d → Go [] H [] H' → E cls d H'
/-- the first argument is owned, and changed -/
def spM (mg : Str → Option Value) (n : Nat) (F : O → List D → Option (O × O)) : Sp := fun vs H Q E => ∃ o ds v0 vs' fp A, vs = v0 :: vs' ∧ ds.length + 1 = n ∧ RepO (fp ++ A) H o v0 fp ∧ RepDs (fp ++ A) H ds vs' ∧ (fp ++ A).Nodup ∧ Trk H (fp ++ A) ∧
  match F o ds with
  | none => False
  | some (r, o') => ∀ v H' fo fp', RepO (fp' ++ (fo ++ A)) H' o' v0 fp' → RepO (fp' ++ (fo ++ A)) H' r v fo → (fp' ++ (fo ++ A)).Nodup → Trk H' (fp' ++ (fo ++ A)) → Go fp H (fo ++ fp') H' → Q v H'
/-- the slots at the entry -/
def env0 (n : Nat) (ds : List D) : Env := ds.map (fun d => some (.sh d)) ++ List.replicate (n - ds.length) none
def envM (n : Nat) (o : O) (ds : List D) : Env := some o :: (ds.map (fun d => some (.sh d)) ++ List.replicate (n - (ds.length + 1)) none)
def runF (n : Nat) (f : SF) (ds : List D) : Option (Out O) := match f (env0 n ds) with
  | some (.rt o, _) => some (.ok o)
  | some (.nx, _) => some (.ok (.sh .none))
  | some (.ex ε, _) => some (.ex ε)
  | _ => none
def runM (n : Nat) (f : SF) (o : O) (ds : List D) : Option (O × O) := match f (envM n o ds) with
  | some (.rt r, Γ) => match Γ[0]? with
    | some (some o') => some (r, o')
    | _ => none
  | some (.nx, Γ) => match Γ[0]? with
    | some (some o') => some (.sh .none, o')
    | _ => none
  | _ => none
theorem repEnv_no {A : List Addr} {H : Hp} : ∀ n : Nat, RepEnv A H (List.replicate n none) (List.replicate n none) []
  | 0 => .nil
  | n + 1 => .no (repEnv_no n)
theorem repEnv_sh {A : List Addr} {H : Hp} {Γ : Env} {σ : St} {fp : List Addr} (t : RepEnv A H Γ σ fp) : ∀ {ds : List D} {vs : List V}, RepDs A H ds vs → RepEnv A H (ds.map (fun d => some (.sh d)) ++ Γ) (vs.map some ++ σ) fp
  | _, _, .nil => t
  | _, _, .cons r s => .yes (fo := []) (.sh r) (repEnv_sh t s)
theorem repEnv_start {A : List Addr} {H : Hp} {N : List Str} {ds : List D} {vs : List V} (r : RepDs A H ds vs) : RepEnv A H (env0 N.length ds) (L2.start N vs) [] := by
  unfold env0 L2.start
  rw [r.length]
  exact repEnv_sh (repEnv_no _) r
theorem repEnv_startM {A : List Addr} {H : Hp} {N : List Str} {o : O} {v : V} {fo : List Addr} {ds : List D} {vs : List V} (ro : RepO A H o v fo) (r : RepDs A H ds vs) : RepEnv A H (envM N.length o ds) (L2.start N (v :: vs)) fo := by
  unfold envM L2.start
  rw [List.length_cons, r.length]
  have h := RepEnv.yes ro (repEnv_sh (repEnv_no (N.length - (vs.length + 1))) r)
  rw [List.append_nil] at h
  exact h
section
variable {P : Program} {w : World} {K : PySem.W.Frag} {mg : Str → Option Value} {base : Heap} {k : Nat} {f : Addr} {x qual : Str} {st : Stmt} {fd : FuncData} {N ps : List Str}
theorem Go.nil_of {fp : List Addr} {H H' : Hp} {fo : List Addr} (g : Go [] H (fo ++ fp) H') : Go [] H fo H' := g.congr (fun _ h => h) fun b h => .inl (List.mem_append_left _ h)
theorem okF {ff : SF} (F : Fun K x qual st f fd) (S : FnScope N ps (defScope st))
    (hbody : ∀ (cdv : Value) (A : Around) (outer : List PySem.Env) (s : Shared) (H : Hp) (E : XK), Room k (cxG P w K mg base N qual st f cdv A outer s H E).A → (cxG P w K mg base N qual st f cdv A outer s H E).A.guards = some [] →
      DSs (cxG P w K mg base N qual st f cdv A outer s H E) [] (defBody st) ff) : FnG P w K mg base (k + 1) f fd ps (spF mg ps.length (runF N.length ff)) := by
  refine fng_of F S (fun vs H Q E h => ?_) fun cdv A outer s H vs Q E hr hgd h => ?_
  · obtain ⟨ds, A, e, r, _⟩ := h
    rw [← r.length, e]
  · obtain ⟨ds, B, e, r, nd, tr, q⟩ := h
    refine (hbody cdv A outer s H E hr hgd).run _ takesG passesG (L2.start N vs) H (env0 N.length ds) [] B _ ⟨repEnv_start r, nd, tr⟩ ?_
    unfold runF at q
    match e : ff (env0 N.length ds), q with
    | some (.rt o, Γ'), q =>
      exact fun v σ' H' fo fp' S' R' G' _ => by
        have sub : ∀ b ∈ fo ++ B, b ∈ fp' ++ (fo ++ B) := fun b h => List.mem_append_right _ h
        exact q v H' fo (R'.congr sub) (List.nodup_append.mp S'.nd).2.1 (fun a h => S'.trk a (sub a h)) G'.nil_of
    | some (.nx, Γ'), q =>
      exact fun σ' H' fp' S' G' _ => q .non H' [] (.sh .non) (List.nodup_append.mp S'.nd).2.1 (fun a h => S'.trk a (List.mem_append_right _ h)) (Go.nil_of (fo := []) G')
    | some (.ex ε, Γ'), q =>
      exact fun cls d σ' H' fp' S' R' G' _ => q cls d H' (by
        obtain ⟨hc, hf⟩ := R'
        refine ⟨hc, ?_⟩
        cases hfl : ε.flds with
        | none => rw [hfl] at hf; exact hf
        | some fs =>
          rw [hfl] at hf
          obtain ⟨dd, vs, e1, e2, e3, e4⟩ := hf
          exact ⟨dd, vs, e1, fun q => e2 (List.mem_append_right _ q), e3, e4.congr fun b h => List.mem_append_right _ h⟩) (Go.nil_of (fo := []) G')
theorem okM {ff : SF} (F : Fun K x qual st f fd) (S : FnScope N ps (defScope st))
    (hbody : ∀ (cdv : Value) (A : Around) (outer : List PySem.Env) (s : Shared) (H : Hp) (E : XK), Room k (cxG P w K mg base N qual st f cdv A outer s H E).A → (cxG P w K mg base N qual st f cdv A outer s H E).A.guards = some [] →
      DSs (cxG P w K mg base N qual st f cdv A outer s H E) [0] (defBody st) ff) : FnG P w K mg base (k + 1) f fd ps (spM mg ps.length (runM N.length ff)) := by
  refine fng_of F S (fun vs H Q E h => ?_) fun cdv A outer s H vs Q E hr hgd h => ?_
  · obtain ⟨o, ds, v0, vs', fp, A, rfl, e, ro, r, _⟩ := h
    rw [List.length_cons, ← r.length, e]
  · obtain ⟨o, ds, v0, vs', fp, B, rfl, e, ro, r, nd, tr, q⟩ := h
    refine (hbody cdv A outer s H E hr hgd).run _ takesG passesG (L2.start N (v0 :: vs')) H (envM N.length o ds) fp B _ ⟨repEnv_startM ro r, nd, tr⟩ ?_
    unfold runM at q
    have fin : ∀ (Γ' : Env) (o' rr : O), Γ'[0]? = some (some o') → (∀ v H' fo fp', RepO (fp' ++ (fo ++ B)) H' o' v0 fp' → RepO (fp' ++ (fo ++ B)) H' rr v fo → (fp' ++ (fo ++ B)).Nodup → Trk H' (fp' ++ (fo ++ B)) → Go fp H (fo ++ fp') H' → Q v H') →
        ∀ v σ' H' fo fp', SOk H' Γ' σ' fp' (fo ++ B) → RepO (fp' ++ (fo ++ B)) H' rr v fo → Go fp H (fo ++ fp') H' → (∀ i ∈ [0], σ'[i]? = (L2.start N (v0 :: vs'))[i]?) → Q v H' := fun Γ' o' rr e1 q v σ' H' fo fp' S' R' G' pn => by
      obtain ⟨v1, f0, f1, f2, h1, h2, h3, _⟩ := S'.env.split e1
      have ev : v1 = v0 := by
        have z := pn 0 (List.mem_singleton.mpr rfl)
        rw [h1] at z
        have z2 : (L2.start N (v0 :: vs'))[0]? = some (some v0) := rfl
        rw [z2] at z
        exact Option.some.inj (Option.some.inj z)
      subst ev
      subst h3
      have sub : ∀ b ∈ f0 ++ (fo ++ B), b ∈ f1 ++ f0 ++ f2 ++ (fo ++ B) := fun b h => by
        simp only [List.mem_append] at h ⊢
        rcases h with h | h
        · exact .inl (.inl (.inr h))
        · exact .inr h
      refine q v H' fo f0 (h2.congr sub) (R'.congr sub) (S'.nd.sublist (List.Sublist.append ?_ (List.Sublist.refl _))) (fun a h => S'.trk a (sub a h)) (G'.congr (fun _ h => h) fun b h => .inl ?_)
      · exact (List.sublist_append_right f1 f0).trans (List.sublist_append_left _ _)
      · simp only [List.mem_append] at h ⊢
        rcases h with h | h
        · exact .inl h
        · exact .inr (.inl (.inr h))
    match e : ff (envM N.length o ds), q with
    | some (.rt rr, Γ'), q =>
      cases e1 : Γ'[0]? with
      | none => simp only [e1] at q
      | some r1 =>
        cases r1 with
        | none => simp only [e1] at q
        | some o' =>
          simp only [e1] at q
          exact fin Γ' o' rr e1 q
    | some (.nx, Γ'), q =>
      cases e1 : Γ'[0]? with
      | none => simp only [e1] at q
      | some r1 =>
        cases r1 with
        | none => simp only [e1] at q
        | some o' =>
          simp only [e1] at q
          exact fun σ' H' fp' S' G' pn => fin Γ' o' (.sh .none) e1 q .non σ' H' [] fp' S' (.sh .non) G' pn
end
/-! ### calls -/
section
variable {X : Cx} {k n : Nat} {f : Addr} {fd : FuncData} {ps : List Str} {x : Str} {p pos : Pos} {e : Expr} {es : List Expr} {fs : M (List D)}
theorem run_fnG {sp : Sp} {W : WX} {pins : List (Addr × Obj)} {σ : St} {H : Hp} {s : Shared} {Q : VK} {us : List Value} {vs : List V} (tk : Takes X W) (F : FnG X.prog X.w X.K X.mg X.base k f fd ps sp) (hr : Room k X.A) (hgd : X.A.guards = some []) {dvs : List V} {ds : List Value} (hb : Binds X.K fd ps ds) (hd : Vals dvs ds)
    (I : Inv X pins σ H s) (r : Vals vs us) (h : sp (vs ++ dvs) H Q (WE W σ)) : wpAny (model X.prog X.w) X.A (call (.ref f) us) (EP X pins σ Q) X.xe s := by
  have r2 : Vals (vs ++ dvs) (us ++ ds) := r.append hd
  have hl : (us ++ ds).length = ps.length := by rw [← r2.length]; exact F.len _ _ _ _ h
  refine wpAny_call (codeAny_mono (F.run X.A X.stack s H ⟨us, []⟩ (us ++ ds) (vs ++ dvs) Q _ hr hgd I.env0 (hb s us I.kIn hl) r2 h) fun r s' hq => ?_)
  cases r with
  | error e => exact passAt tk σ pins H s e s' I hq
  | ok fl =>
    cases fl with
    | ret u => exact I.after hq
    | next => exact False.elim hq
    | brk => exact False.elim hq
    | cont => exact False.elim hq
theorem pe_callG {sp : Sp} {W : WX} (tk : Takes X W) (F : FnG X.prog X.w X.K X.mg X.base k f fd ps sp) (hr : Room k X.A) (hgd : X.A.guards = some []) (hm : X.mg x = some (.ref f)) (hk : PySem.W.keepIn X.K (.ref f) = true) {dvs : List V} {ds : List Value} (hb : Binds X.K fd ps ds) (hd : Vals dvs ds)
    {t : TA} (ha : PA X (e :: es) t) (hg : Gl X x) (hdb : (x == ("__debug__" : Str)) = false) (he : starEach (e :: es) X.env = (false, eval e X.env) :: starEach es X.env) (hpl : (backTo pos (starEach es X.env)).any (·.1) = false) :
    PE X (.Call (.Name x p) (e :: es) [] pos) (fun σ H Q => t σ H fun vs H1 => sp (vs ++ dvs) H1 Q (WE W σ)) := by
  refine ⟨fun pins s σ H Q I h => ?_⟩
  refine wpAny_Call_Name_kw (ld_glob I hg hm ?_ hdb)
  refine PySem.W.callWith_K (h₀ := X.base) I.ok.mod.kin hk (thn (ha.run pos pins s σ H _ I h) fun us s1 ⟨vs, H1, I1, r, q⟩ => ⟨I1.kIn, ?_⟩) he hpl
  exact run_fnG tk F hr hgd hb hd I1 r q
theorem pe_callG0 {sp : Sp} {W : WX} (tk : Takes X W) (F : FnG X.prog X.w X.K X.mg X.base k f fd ps sp) (hr : Room k X.A) (hgd : X.A.guards = some []) (hm : X.mg x = some (.ref f)) (hk : PySem.W.keepIn X.K (.ref f) = true) {dvs : List V} {ds : List Value} (hb : Binds X.K fd ps ds) (hd : Vals dvs ds)
    (hg : Gl X x) (hdb : (x == ("__debug__" : Str)) = false) : PE X (.Call (.Name x p) [] [] pos) (fun σ H Q => sp dvs H Q (WE W σ)) := by
  refine ⟨fun pins s σ H Q I h => ?_⟩
  refine wpAny_Call_Name_kw (ld_glob I hg hm ?_ hdb)
  exact PySem.W.callWith_K0 I.kIn hk (run_fnG (vs := []) (us := []) tk F hr hgd hb hd I .nil h)
/-- what a call tells -/
def M.call (F : List D → Option (Out O)) (ds : List D) : M O := fun Γ => match F ds with
  | none => none
  | some r => some (r, Γ)
/-- constants that fill up parameters -/
def Dfl (dd : List D) (dvs : List V) (ds : List Value) : Prop := Vals dvs ds ∧ ∀ A H, RepDs A H dd dvs
theorem Dfl.nil : Dfl [] [] [] := ⟨.nil, fun _ _ => .nil⟩
theorem Dfl.cons {d : D} {u : Value} {dd : List D} {dvs : List V} {ds : List Value} (c : Cst u d) (h : Dfl dd dvs ds) : ∃ v, Dfl (d :: dd) (v :: dvs) (u :: ds) := by
  obtain ⟨v, r, q⟩ := c
  exact ⟨v, .cons r h.1, fun A H => .cons (q A H) (h.2 A H)⟩
theorem SOk.tail {H : Hp} {Γ : Env} {σ : St} {fp rest : List Addr} (S : SOk H Γ σ fp rest) : (fp ++ rest).Nodup ∧ Trk H (fp ++ rest) := ⟨S.nd, S.trk⟩
theorem spF_ok {F : List D → Option (Out O)} {W : WX} {σ : St} {H : Hp} {Γ : Env} {fp rest : List Addr} {Q : VK} {ds : List D} {vs : List V} (S : SOk H Γ σ fp rest) (R : RepDs (fp ++ rest) H ds vs) (hn : ds.length = n) (hW : Wp X W fp rest H σ RepO (M.call F ds Γ) Q) :
    spF X.mg n F vs H Q (WE W σ) := by
  refine ⟨ds, fp ++ rest, hn, R, S.nd, S.trk, ?_⟩
  unfold M.call at hW
  match e : F ds, hW with
  | none, hW => exact hW.elim
  | some (.ok o), hW =>
    intro v H' fo R' nd' tr' G'
    have p : (fo ++ (fp ++ rest)).Perm (fp ++ (fo ++ rest)) := by
      rw [← List.append_assoc, ← List.append_assoc]
      exact List.Perm.append_right rest List.perm_append_comm
    have kp : ∀ b u, H b = some u → H' b = some u := fun b u e => G'.keep b u e (by simp)
    refine hW v H' fo fp ⟨S.env.stay (fun b u e n => ⟨kp b u e, fun q => ?_⟩) (fun b u e _ => kp b u e), p.nodup_iff.mp nd', fun a h => tr' a (p.mem_iff.mpr h)⟩ (R'.congr fun b h => p.mem_iff.mpr h) ⟨fun b u e _ => kp b u e, fun b h => ?_⟩
    · rcases List.mem_append.mp (p.mem_iff.mpr q) with q | q
      · rcases G'.new b q with z | z
        · cases z
        · rw [e] at z; cases z
      · exact n q
    · rcases List.mem_append.mp h with h | h
      · rcases G'.new b h with z | z
        · cases z
        · exact .inr z
      · exact .inl h
  | some (.ex ε), hW =>
    intro cls d H' R' G'
    have kp : ∀ b u, H b = some u → H' b = some u := fun b u e => G'.keep b u e (by simp)
    exact hW cls d H' fp (S.grow kp) R' (Go.grow kp fp)
theorem de_call {G : List D → Option (Out O)} {dd : List D} {dvs : List V} {ds : List Value} (F : FnG X.prog X.w X.K X.mg X.base k f fd ps (spF X.mg n G)) (hr : Room k X.A) (hgd : X.A.guards = some []) (hm : X.mg x = some (.ref f)) (hk : PySem.W.keepIn X.K (.ref f) = true) (hb : Binds X.K fd ps ds) (hd : Dfl dd dvs ds)
    (ha : DA X (e :: es) fs) (hn : (e :: es).length + dd.length = n := by rfl) (hg : Gl X x := by rfl) (hdb : (x == ("__debug__" : Str)) = false := by decide) (he : starEach (e :: es) X.env = (false, eval e X.env) :: starEach es X.env := by rfl) (hpl : (backTo pos (starEach es X.env)).any (·.1) = false := by rfl) :
    DE X (.Call (.Name x p) (e :: es) [] pos) (M.bind fs fun l => if l.length + dd.length = n then M.call G (l ++ dd) else M.fail) := by
  refine ⟨fun W tk σ H Γ fp rest Q S hW => we (pe_callG tk F hr hgd hm hk hb hd.1 pa_w hg hdb he hpl) ?_⟩
  refine ha.thn tk S hW fun l Γ1 vs H1 fo fp1 S1 R1 G1 hW1 => ?_
  obtain ⟨rfl, R1⟩ := R1
  split at hW1
  · rename_i hl
    exact spF_ok S1 (R1.append (hd.2 _ _)) (by rw [List.length_append]; exact hl) hW1
  · exact hW1.elim
theorem de_call0 {G : List D → Option (Out O)} {dd : List D} {dvs : List V} {ds : List Value} (F : FnG X.prog X.w X.K X.mg X.base k f fd ps (spF X.mg n G)) (hr : Room k X.A) (hgd : X.A.guards = some []) (hm : X.mg x = some (.ref f)) (hk : PySem.W.keepIn X.K (.ref f) = true) (hb : Binds X.K fd ps ds) (hd : Dfl dd dvs ds)
    (hn : dd.length = n := by rfl) (hg : Gl X x := by rfl) (hdb : (x == ("__debug__" : Str)) = false := by decide) : DE X (.Call (.Name x p) [] [] pos) (M.call G dd) := by
  refine ⟨fun W tk σ H Γ fp rest Q S hW => we (pe_callG0 tk F hr hgd hm hk hb hd.1 hg hdb) ?_⟩
  exact spF_ok S (hd.2 _ _) hn hW
/-- the first argument is a name whose owned value is changed -/
def M.callM (i : Nat) (F : O → List D → Option (O × O)) (ds : List D) : M O := fun Γ => match Γ[i]? with
  | some (some o) => match F o ds with
    | none => none
    | some (r, o') => some (.ok r, Γ.set i (some o'))
  | _ => none
theorem spM_ok {F : O → List D → Option (O × O)} {W : WX} {i : Nat} {σ : St} {H : Hp} {Γ : Env} {fp rest : List Addr} {Q : VK} {ds : List D} {v : V} {vs : List V} (S : SOk H Γ σ fp rest) (R : RepDs (fp ++ rest) H ds vs) (hn : ds.length + 1 = n) (hv : σ[i]? = some (some v))
    (hW : Wp X W fp rest H σ RepO (M.callM i F ds Γ) Q) : spM X.mg n F (v :: vs) H Q (WE W σ) := by
  unfold M.callM at hW
  cases e0 : Γ[i]? with
  | none => rw [e0] at hW; exact hW.elim
  | some r0 =>
    cases r0 with
    | none => rw [e0] at hW; exact hW.elim
    | some o =>
      rw [e0] at hW
      simp only at hW
      obtain ⟨v1, f, f1, f2, h1, h2, h3, h4, h5⟩ := S.env.split e0
      have ev : v1 = v := by rw [h1] at hv; exact Option.some.inj (Option.some.inj hv)
      subst ev
      subst h3
      have p : (f1 ++ f ++ f2 ++ rest).Perm (f ++ (f1 ++ f2 ++ rest)) := by
        rw [List.append_assoc, List.append_assoc, List.append_assoc, ← List.append_assoc f1, ← List.append_assoc f]
        exact List.Perm.append_right _ List.perm_append_comm
      have nd := p.nodup_iff.mp S.nd
      refine ⟨o, ds, v1, vs, f, f1 ++ f2 ++ rest, rfl, hn, h2.congr fun b h => p.mem_iff.mpr h, R.congr fun b h => p.mem_iff.mpr h, nd, fun a h => S.trk a (p.mem_iff.mpr h), ?_⟩
      cases e1 : F o ds with
      | none => rw [e1] at hW; exact hW.elim
      | some r1 =>
        obtain ⟨r, o'⟩ := r1
        rw [e1] at hW
        intro v' H' fo fp' Ro' Rr nd' tr' G'
        have p' : (fp' ++ (fo ++ (f1 ++ f2 ++ rest))).Perm (f1 ++ fp' ++ f2 ++ (fo ++ rest)) := by
          refine List.perm_iff_count.mpr fun b => ?_
          simp only [List.count_append]
          omega
        have out : ∀ b u, H b = some u → b ∉ f → H' b = some u ∧ b ∉ fo ++ fp' := fun b u e n => ⟨G'.keep b u e n, fun q => by
          rcases G'.new b q with z | z
          · exact n z
          · rw [e] at z; cases z⟩
        have env' := h5 (f1 ++ fp' ++ f2 ++ (fo ++ rest)) H' (fun b u e n => by
            have nf : b ∉ f := fun q => n (by simp [q])
            obtain ⟨k1, k2⟩ := out b u e nf
            refine ⟨k1, fun q => ?_⟩
            simp only [List.mem_append] at q n k2
            rcases q with ((q | q) | q) | q | q
            · exact n (.inl (.inl (.inl q)))
            · exact k2 (.inr q)
            · exact n (.inl (.inr q))
            · exact k2 (.inl q)
            · exact n (.inr q)) (fun b u e hb => (out b u e fun q => by
              have z := (List.nodup_append.mp nd).2.2 b q b (List.mem_append_left _ hb)
              exact z rfl).1) o' v1 fp' (Ro'.congr fun b h => p'.mem_iff.mpr h)
        rw [set_none h1] at env'
        refine hW v' H' fo (f1 ++ fp' ++ f2) ⟨env', p'.nodup_iff.mp nd', fun a h => tr' a (p'.mem_iff.mpr h)⟩ (Rr.congr fun b h => p'.mem_iff.mpr h) (G'.congr (fun b h => by simp [h]) fun b h => ?_)
        simp only [List.mem_append] at h ⊢
        rcases h with h | (h | h) | h
        · exact .inl (.inl h)
        · exact .inr (.inl (.inl (.inl h)))
        · exact .inl (.inr h)
        · exact .inr (.inl (.inr h))
/-- the slot holds something -/
def M.has {α : Type} (i : Nat) (m : M α) : M α := fun Γ => match Γ[i]? with
  | some (some _) => m Γ
  | _ => none
theorem M.has_of {α β : Type} {W : WX} {fp rest : List Addr} {H : Hp} {σ : St} {rep : Rp α β} {m : M α} {i : Nat} {Γ : Env} {Q : β → Hp → Prop} (h : Wp X W fp rest H σ rep (M.has i m Γ) Q) : ∃ o, Γ[i]? = some (some o) ∧ Wp X W fp rest H σ rep (m Γ) Q := by
  unfold M.has at h
  cases e : Γ[i]? with
  | none => rw [e] at h; exact h.elim
  | some r =>
    cases r with
    | none => rw [e] at h; exact h.elim
    | some o => rw [e] at h; exact ⟨o, rfl, h⟩
theorem de_callM (i : Nat) {y : Str} {py : Pos} {G : O → List D → Option (O × O)} (F : FnG X.prog X.w X.K X.mg X.base k f fd ps (spM X.mg n G)) (hr : Room k X.A) (hgd : X.A.guards = some []) (hm : X.mg x = some (.ref f)) (hk : PySem.W.keepIn X.K (.ref f) = true) (hb : Binds X.K fd ps [])
    (ha : DA X es fs) (hN : X.N[i]? = some y := by rfl) (hv : Vis X.env.scope y := by first | exact Or.inl rfl | exact Or.inr (Or.inl rfl) | exact Or.inr (Or.inr rfl)) (hd : (y == ("__debug__" : Str)) = false := by decide)
    (hcd : (y == ("__classdict__" : Str)) = false := by decide)
    (hg : Gl X x := by rfl) (hdb : (x == ("__debug__" : Str)) = false := by decide) (he : starEach (.Name y py :: es) X.env = (false, eval (.Name y py) X.env) :: starEach es X.env := by rfl) (hpl : (backTo pos (starEach es X.env)).any (·.1) = false := by rfl) :
    DE X (.Call (.Name x p) (.Name y py :: es) [] pos) (M.has i (M.bind fs fun l => if l.length + 1 = n then M.callM i G l else M.fail)) := by
  refine ⟨fun W tk σ H Γ fp rest Q S hW => we (pe_callG tk F hr hgd hm hk hb .nil (pa_cons (pe_var hN hv hd hcd) pa_w he) hg hdb he hpl) ?_⟩
  obtain ⟨o, e, hW⟩ := M.has_of hW
  obtain ⟨v, _, _, _, hv, _⟩ := S.env.split e
  refine ⟨v, hv, ?_⟩
  refine ha.thn tk S hW fun l Γ1 vs H1 fo fp1 S1 R1 G1 hW1 => ?_
  obtain ⟨rfl, R1⟩ := R1
  split at hW1
  · rename_i hl
    rw [List.append_nil]
    exact spM_ok S1 R1 hl hv hW1
  · exact hW1.elim
end
end DS
namespace DS
open PySem PySem.Spec PyProof.Rows L2
/-! ### built-in functions over data -/
def rCD (g : List D → Option D) : List V → Hp → VK → Prop := fun xs H Q => ∃ A ds d, RepDs A H ds xs ∧ g ds = some d ∧ (∀ b, H b = none → b ∉ A) ∧ ∀ v H', (∀ b u, H b = some u → H' b = some u) → RepD A H' d v → Q v H'
def CD (X : Cx) (f : Value) (g : List D → Option D) : Prop := CallR X f (rCD g)
section
variable {X : Cx} {e : Expr} {es : List Expr} {fs : M (List D)} {x : Str} {p pos : Pos} {g : List D → Option D}
theorem dx_callB {id : String} (hc : CD X (.builtin id) g) (hm : X.mg x = none) (hv : bootBuiltins x = some (.builtin id)) (ha : DA X (e :: es) fs) (hg : Gl X x := by rfl) (hn : x ≠ "__name__" := by decide) (hdb : (x == ("__debug__" : Str)) = false := by decide)
    (he : starEach (e :: es) X.env = (false, eval e X.env) :: starEach es X.env := by rfl) (hpl : (backTo pos (starEach es X.env)).any (·.1) = false := by rfl) : DX X (.Call (.Name x p) (e :: es) [] pos) (M.bind fs fun l => M.lift (g l)) := by
  refine ⟨fun W tk σ H Γ fp rest Q S hW => we (pe_callB hc hg hm hv pa_w hn hdb he hpl) ?_⟩
  refine ha.thn tk S hW fun l Γ1 vs H1 fo fp1 S1 R1 G1 hW1 => ?_
  obtain ⟨rfl, R1⟩ := R1
  obtain ⟨d, e, hW1⟩ := hW1.lift1
  exact ⟨fp1 ++ rest, l, d, R1, e, fun b hb => S1.fresh hb, fin_shared S1 hW1⟩
theorem dx_callTy {T : String} (hc : CD X (.type T) g) (hm : X.mg x = none) (hv : bootBuiltins x = some (.type T)) (ha : DA X (e :: es) fs) (hg : Gl X x := by rfl) (hn : x ≠ "__name__" := by decide) (hdb : (x == ("__debug__" : Str)) = false := by decide)
    (he : starEach (e :: es) X.env = (false, eval e X.env) :: starEach es X.env := by rfl) (hpl : (backTo pos (starEach es X.env)).any (·.1) = false := by rfl) : DX X (.Call (.Name x p) (e :: es) [] pos) (M.bind fs fun l => M.lift (g l)) := by
  refine ⟨fun W tk σ H Γ fp rest Q S hW => we (pe_callTy hc hg hm hv pa_w hn hdb he hpl) ?_⟩
  refine ha.thn tk S hW fun l Γ1 vs H1 fo fp1 S1 R1 G1 hW1 => ?_
  obtain ⟨rfl, R1⟩ := R1
  obtain ⟨d, e, hW1⟩ := hW1.lift1
  exact ⟨fp1 ++ rest, l, d, R1, e, fun b hb => S1.fresh hb, fin_shared S1 hW1⟩
end
noncomputable def bLen : List D → Option D
  | [.list xs] => some (.int xs.length)
  | [.tuple xs] => some (.int xs.length)
  | [.str z] => @ite _ (z.length ≤ 16777216) (Classical.propDecidable _) (some (.int z.length)) none
  | _ => none
def nn : D → Bool
  | .none => false
  | _ => true
def cmpable (xs : List D) : Bool := fitAll 12 xs && (xs.all fun a => xs.all fun b => PySem.W.alike a b) && xs.all nn
noncomputable def bMin : List D → Option D
  | [.int i, .int j] => some (.int (min i j))
  | [.list (x :: xs)] => @ite _ (cmpable (x :: xs) = true) (Classical.propDecidable _) (some (PySem.W.minD x xs)) none
  | _ => none
noncomputable def bMax : List D → Option D
  | [.int i, .int j] => some (.int (max i j))
  | [.list (x :: xs)] => @ite _ (cmpable (x :: xs) = true) (Classical.propDecidable _) (some (PySem.W.maxD x xs)) none
  | _ => none
def asInts : List D → Option (List Int)
  | [] => some []
  | .int i :: r => (asInts r).map (i :: ·)
  | _ => none
@[simp] theorem asInts_map (ns : List Int) : asInts (ns.map .int) = some ns := by
  induction ns with
  | nil => rfl
  | cons n ns ih => rw [List.map_cons, asInts, ih]; rfl
theorem asInts_of : ∀ {ds : List D} {ns : List Int}, asInts ds = some ns → ds = ns.map .int
  | [], _, h => by cases h; rfl
  | d :: ds, ns, h => by
    cases d <;> simp [asInts] at h
    obtain ⟨ms, h1, rfl⟩ := h
    rw [asInts_of h1]; rfl
def bSum : List D → Option D
  | [.list xs] => (asInts xs).map fun ns => .int ns.sum
  | _ => none
noncomputable def bAny : List D → Option D
  | [.list xs] => @ite _ (fitAll 12 xs = true ∧ (xs.all fun x => match x with | .bool _ => true | _ => false) = true) (Classical.propDecidable _) (some (.bool (xs.any PyData.truthy))) none
  | _ => none
noncomputable def bAll : List D → Option D
  | [.list xs] => @ite _ (fitAll 12 xs = true ∧ (xs.all fun x => match x with | .bool _ => true | _ => false) = true) (Classical.propDecidable _) (some (.bool (xs.all PyData.truthy))) none
  | _ => none
def bInt : List D → Option D
  | [.int i] => some (.int i)
  | [.bool k] => some (.int (if k then 1 else 0))
  | _ => none
noncomputable def bStr : List D → Option D
  | [.int i] => @ite _ (i.natAbs.log2 < 1920) (Classical.propDecidable _) (some (.str (Str.ofString (toString i)))) none
  | _ => none
def bList : List D → Option D
  | [.list xs] => some (.list xs)
  | [.tuple xs] => some (.list xs)
  | _ => none
def bTuple : List D → Option D
  | [.list xs] => some (.tuple xs)
  | [.tuple xs] => some (.tuple xs)
  | _ => none
def sortable (ds : List D) : Bool := (ds.all fun d => match d with | .tuple (_ :: _) => true | _ => false) || (ds.all fun d => match d with | .none => false | .tuple _ => false | _ => true)
noncomputable def bSorted : List D → Option D
  | [.list xs] => @ite _ (fitAll 12 xs = true ∧ (xs.all fun a => xs.all fun b => PySem.W.alike a b) = true ∧ sortable xs = true) (Classical.propDecidable _) (some (.list (xs.mergeSort fun a b => !PySem.W.dataLt b a))) none
  | _ => none
noncomputable def bRepr : List D → Option D
  | [d] => @ite _ (fit 12 d = true ∧ d.showable = true ∧ d.shown.length ≤ 16777216) (Classical.propDecidable _) (some (.str d.shown)) none
  | _ => none
section
variable {X : Cx}
theorem rep1 {A : List Addr} {H : Hp} {d : D} {xs : List V} (r : RepDs A H [d] xs) : ∃ v, xs = [v] ∧ RepD A H d v := by
  cases r with
  | cons r s => cases s; exact ⟨_, rfl, r⟩
theorem rep2 {A : List Addr} {H : Hp} {d d' : D} {xs : List V} (r : RepDs A H [d, d'] xs) : ∃ v v', xs = [v, v'] ∧ RepD A H d v ∧ RepD A H d' v' := by
  cases r with
  | cons r s => cases s with
    | cons r' s => cases s; exact ⟨_, _, rfl, r, r'⟩
theorem cd_len : CD X (.builtin "len") bLen := by
  intro pins s σ H vs us Q I r h
  obtain ⟨A, ds, d, rs, e, na, q⟩ := h
  unfold bLen at e
  split at e
  · cases e
    obtain ⟨v, rfl, R⟩ := rep1 rs
    cases R with
    | lst n1 h1 s1 => exact call_len_seq pins s σ H _ us Q I r ⟨_, _, rfl, .inl (.inl h1), q _ _ (fun _ _ h => h) (by rw [s1.length]; exact .int _)⟩
  · cases e
    obtain ⟨v, rfl, R⟩ := rep1 rs
    cases R with
    | tup n1 h1 s1 => exact call_len_seq pins s σ H _ us Q I r ⟨_, _, rfl, .inr (.inl (.inl h1)), q _ _ (fun _ _ h => h) (by rw [s1.length]; exact .int _)⟩
  · split at e <;> cases e
    rename_i z
    obtain ⟨v, rfl, R⟩ := rep1 rs
    cases R
    exact call_len_str pins s σ H _ us Q I r ⟨_, rfl, sizeLine_le.mp z, q _ _ (fun _ _ h => h) (.int _)⟩
  · cases e
/-- a list that reads as data -/
theorem listReads {pins : List (Addr × Obj)} {σ : St} {H : Hp} {s : Shared} {A : List Addr} {xs : List D} {v : V} {us : List Value} (I : Inv X pins σ H s) (hf : PyData.plainAll xs = true) (R : RepD A H (.list xs) v) (r : Vals [v] us) :
    ∃ l ws its as, v = .ref l ∧ us = [.ref l] ∧ RepDs A H xs ws ∧ Vals ws its ∧ PlainL s.heap l its.toArray ∧ ReadsAll s.heap its xs as := by
  cases R with
  | lst n1 h1 s1 =>
    obtain ⟨its, rv, hl, hz⟩ := I.list (.inl h1)
    obtain ⟨as, ra⟩ := readsAll_of I xs _ its hf s1 rv
    exact ⟨_, _, its, as, rfl, Vals.ref1 r, s1, rv, hl, ra⟩
theorem allAlike_of {xs : List D} (h : (xs.all fun a => xs.all fun b => PySem.W.alike a b) = true) : PySem.W.AllAlike xs := fun d hd d' hd' => by
  rw [List.all_eq_true] at h
  have := h d hd
  rw [List.all_eq_true] at this
  exact this d' hd'
theorem cmpable_of {xs : List D} (h : cmpable xs = true) : (PyData.plainAll xs = true ∧ PyData.depthAll xs ≤ 12) ∧ PySem.W.AlikeAll xs := by
  unfold cmpable at h
  simp only [Bool.and_eq_true] at h
  refine ⟨fitAll_plain 12 _ h.1.1, fun x hx y hy => allAlike_of h.1.2 x hx y hy, fun x hx => ?_⟩
  have := List.all_eq_true.mp h.2 x hx
  cases x <;> first | (cases this; done) | (intro z; cases z)
theorem cd_min (hc : X.calm = true) (hu : X.A.units + 100 < cLine) : CD X (.builtin "min") bMin := by
  intro pins s σ H vs us Q I r h
  obtain ⟨A, ds, d, rs, e, na, q⟩ := h
  unfold bMin at e
  split at e
  · cases e
    obtain ⟨v, v', rfl, R, R'⟩ := rep2 rs
    cases R; cases R'
    rename_i i j
    refine call_min2 hc pins s σ H _ us Q I r ⟨i, j, rfl, q _ _ (fun _ _ h => h) ?_⟩
    have em : (if j < i then j else i) = min i j := by split <;> omega
    rw [em]; exact .int _
  · rename_i x xs
    split at e <;> cases e
    rename_i z
    obtain ⟨v, rfl, R⟩ := rep1 rs
    obtain ⟨p, al⟩ := cmpable_of z
    obtain ⟨l, ws, its, as, rfl, rfl, s1, rv, hl, ra⟩ := listReads I p.1 R r
    refine PySem.W.min_list_data (I.ok.hd hc) hl.isList (by simpa using ra) al (by omega) fun i v h' tk bs hv hr hk => ?_
    obtain ⟨w, hw, rw'⟩ : ∃ w, ws[i]? = some w ∧ RelV w v := by
      have hv' : its[i]? = some v := by simpa using hv
      cases hw : ws[i]? with
      | none => rw [rv.none_of hw] at hv'; cases hv'
      | some w =>
        obtain ⟨u, hu', ru⟩ := rv.get hw
        rw [hv'] at hu'; cases hu'
        exact ⟨w, rfl, ru⟩
    obtain ⟨d, hd, Rd'⟩ := s1.getV hw
    have I' := I.kept (h' := h') (t' := tk) hk
    have pd : d.plain = true := by
      have hm : d ∈ x :: xs := List.mem_of_getElem? hd
      exact PySem.W.plain_mem p.1 hm
    obtain ⟨as', ra'⟩ := reads_of I' d w v pd Rd' rw'
    have ed : PySem.W.minD x xs = d := (SeqAt.plain_unique d _ v as' bs pd ra' hr).symm
    exact ⟨w, H, I', rw', q _ _ (fun _ _ h => h) (by rw [ed]; exact Rd')⟩
  · cases e
theorem cd_max (hc : X.calm = true) (hu : X.A.units + 100 < cLine) : CD X (.builtin "max") bMax := by
  intro pins s σ H vs us Q I r h
  obtain ⟨A, ds, d, rs, e, na, q⟩ := h
  unfold bMax at e
  split at e
  · cases e
    obtain ⟨v, v', rfl, R, R'⟩ := rep2 rs
    cases R; cases R'
    rename_i i j
    refine call_max2 hc pins s σ H _ us Q I r ⟨i, j, rfl, q _ _ (fun _ _ h => h) ?_⟩
    have em : (if j > i then j else i) = max i j := by split <;> omega
    rw [em]; exact .int _
  · rename_i x xs
    split at e <;> cases e
    rename_i z
    obtain ⟨v, rfl, R⟩ := rep1 rs
    obtain ⟨p, al⟩ := cmpable_of z
    obtain ⟨l, ws, its, as, rfl, rfl, s1, rv, hl, ra⟩ := listReads I p.1 R r
    refine PySem.W.max_list_data (I.ok.hd hc) hl.isList (by simpa using ra) al (by omega) fun i v h' tk bs hv hr hk => ?_
    obtain ⟨w, hw, rw'⟩ : ∃ w, ws[i]? = some w ∧ RelV w v := by
      have hv' : its[i]? = some v := by simpa using hv
      cases hw : ws[i]? with
      | none => rw [rv.none_of hw] at hv'; cases hv'
      | some w =>
        obtain ⟨u, hu', ru⟩ := rv.get hw
        rw [hv'] at hu'; cases hu'
        exact ⟨w, rfl, ru⟩
    obtain ⟨d, hd, Rd'⟩ := s1.getV hw
    have I' := I.kept (h' := h') (t' := tk) hk
    have pd : d.plain = true := by
      have hm : d ∈ x :: xs := List.mem_of_getElem? hd
      exact PySem.W.plain_mem p.1 hm
    obtain ⟨as', ra'⟩ := reads_of I' d w v pd Rd' rw'
    have ed : PySem.W.maxD x xs = d := (SeqAt.plain_unique d _ v as' bs pd ra' hr).symm
    exact ⟨w, H, I', rw', q _ _ (fun _ _ h => h) (by rw [ed]; exact Rd')⟩
  · cases e
theorem cd_sum (hc : X.calm = true) : CD X (.builtin "sum") bSum := by
  intro pins s σ H vs us Q I r h
  obtain ⟨A, ds, d, rs, e, na, q⟩ := h
  unfold bSum at e
  split at e
  · obtain ⟨ns, h1, rfl⟩ := Option.map_eq_some_iff.mp e
    have ex := asInts_of h1
    subst ex
    obtain ⟨v, rfl, R⟩ := rep1 rs
    cases R with
    | lst n1 h1 s1 =>
      have es := s1.mapInts
      subst es
      exact cr_sum hc pins s σ H _ us Q I r ⟨_, ns, rfl, .inl h1, q _ _ (fun _ _ h => h) (.int _)⟩
  · cases e
theorem bools_fit {xs : List D} (h : (xs.all fun x => match x with | .bool _ => true | _ => false) = true) : ∀ x ∈ xs, _root_.PySem.PyData.fits63 x := fun x hx => by
  have := List.all_eq_true.mp h x hx
  cases x <;> first | trivial | cases this
theorem cd_any (hc : X.calm = true) : CD X (.builtin "any") bAny := by
  intro pins s σ H vs us Q I r h
  obtain ⟨A, ds, d, rs, e, na, q⟩ := h
  unfold bAny at e
  split at e
  · rename_i xs
    split at e <;> cases e
    rename_i z
    obtain ⟨v, rfl, R⟩ := rep1 rs
    have p := fitAll_plain 12 _ z.1
    obtain ⟨l, ws, its, as, rfl, rfl, s1, rv, hl, ra⟩ := listReads I p.1 R r
    refine PySem.W.any_list_data (I.ok.hd hc) hl.isList (by simpa using ra) p.1 (bools_fit z.2) fun h' tk hk => ?_
    exact ⟨.bl _, H, I.kept (h' := h') (t' := tk) hk, rfl, q _ _ (fun _ _ h => h) (.bl _)⟩
  · cases e
theorem cd_all (hc : X.calm = true) : CD X (.builtin "all") bAll := by
  intro pins s σ H vs us Q I r h
  obtain ⟨A, ds, d, rs, e, na, q⟩ := h
  unfold bAll at e
  split at e
  · rename_i xs
    split at e <;> cases e
    rename_i z
    obtain ⟨v, rfl, R⟩ := rep1 rs
    have p := fitAll_plain 12 _ z.1
    obtain ⟨l, ws, its, as, rfl, rfl, s1, rv, hl, ra⟩ := listReads I p.1 R r
    refine PySem.W.all_list_data (I.ok.hd hc) hl.isList (by simpa using ra) p.1 (bools_fit z.2) fun h' tk hk => ?_
    exact ⟨.bl _, H, I.kept (h' := h') (t' := tk) hk, rfl, q _ _ (fun _ _ h => h) (.bl _)⟩
  · cases e
theorem cd_int : CD X (.type "int") bInt := by
  intro pins s σ H vs us Q I r h
  obtain ⟨A, ds, d, rs, e, na, q⟩ := h
  unfold bInt at e
  split at e
  · cases e
    obtain ⟨v, rfl, R⟩ := rep1 rs
    cases R
    exact call_int1 pins s σ H _ us Q I r (.inl ⟨_, rfl, q _ _ (fun _ _ h => h) (.int _)⟩)
  · cases e
    obtain ⟨v, rfl, R⟩ := rep1 rs
    cases R
    exact call_int1 pins s σ H _ us Q I r (.inr ⟨_, rfl, q _ _ (fun _ _ h => h) (.int _)⟩)
  · cases e
theorem cd_str : CD X (.type "str") bStr := by
  intro pins s σ H vs us Q I r h
  obtain ⟨A, ds, d, rs, e, na, q⟩ := h
  unfold bStr at e
  split at e
  · split at e <;> cases e
    rename_i z
    obtain ⟨v, rfl, R⟩ := rep1 rs
    cases R
    exact call_str_int pins s σ H _ us Q I r ⟨_, rfl, z, q _ _ (fun _ _ h => h) (.str _)⟩
  · cases e
theorem cd_list : CD X (.type "list") bList := by
  intro pins s σ H vs us Q I r h
  obtain ⟨A, ds, d, rs, e, na, q⟩ := h
  unfold bList at e
  split at e
  · cases e
    obtain ⟨v, rfl, R⟩ := rep1 rs
    cases R with
    | lst n1 h1 s1 => exact call_list_of pins s σ H _ us Q I r ⟨_, _, rfl, .inl (.inl h1), fin_new s1 na q⟩
  · cases e
    obtain ⟨v, rfl, R⟩ := rep1 rs
    cases R with
    | tup n1 h1 s1 => exact call_list_of pins s σ H _ us Q I r ⟨_, _, rfl, .inr (.inl (.inl h1)), fin_new s1 na q⟩
  · cases e
theorem cd_tuple : CD X (.type "tuple") bTuple := by
  intro pins s σ H vs us Q I r h
  obtain ⟨A, ds, d, rs, e, na, q⟩ := h
  unfold bTuple at e
  split at e
  · cases e
    obtain ⟨v, rfl, R⟩ := rep1 rs
    cases R with
    | lst n1 h1 s1 => exact call_tuple_of pins s σ H _ us Q I r ⟨_, _, rfl, .inl ⟨.inl h1, fin_newT s1 na q⟩⟩
  · cases e
    obtain ⟨v, rfl, R⟩ := rep1 rs
    cases R with
    | tup n1 h1 s1 => exact call_tuple_of pins s σ H _ us Q I r ⟨_, _, rfl, .inr ⟨.inl (.inl h1), q _ _ (fun _ _ h => h) (.tup n1 h1 s1)⟩⟩
  · cases e
theorem sortable_of {ds : List D} (h : sortable ds = true) : PySem.W.Sortable ds := by
  unfold sortable at h
  rcases Bool.or_eq_true _ _ |>.mp h with h | h
  · refine .inl fun d hd => ?_
    have := List.all_eq_true.mp h d hd
    cases d with
    | tuple l => cases l with
      | nil => cases this
      | cons x r => exact ⟨x, r, rfl⟩
    | _ => cases this
  · refine .inr fun d hd => ?_
    have := List.all_eq_true.mp h d hd
    exact ⟨fun z => (by subst z; cases this), fun _ z => (by subst z; cases this)⟩
theorem each_pairs {A : List Addr} {H : Hp} : ∀ {ds : List D} {ws : List V} {its : List Value}, RepDs A H ds ws → Vals ws its → ∃ bs : List (V × D), bs.map (·.1) = ws ∧ bs.map (·.2) = ds ∧ PySem.W.EachIs (fun v b => RelV b.1 v) its bs ∧ ∀ b ∈ bs, RepD A H b.2 b.1
  | _, _, _, .nil, .nil => ⟨[], rfl, rfl, .nil, fun _ h => by cases h⟩
  | d :: ds, w :: ws, u :: us, .cons r s, .cons q t => by
    obtain ⟨bs, h1, h2, h3, h4⟩ := each_pairs s t
    exact ⟨(w, d) :: bs, by rw [List.map_cons, h1], by rw [List.map_cons, h2], .cons q h3, fun b hb => by
      rcases List.mem_cons.mp hb with rfl | hb
      · exact r
      · exact h4 b hb⟩
theorem each_vals : ∀ {its : List Value} {bs : List (V × D)}, PySem.W.EachIs (fun v b => RelV b.1 v) its bs → Vals (bs.map (·.1)) its
  | _, _, .nil => .nil
  | _, _, .cons r s => .cons r (each_vals s)
theorem reps_map {A : List Addr} {H : Hp} : ∀ {bs : List (V × D)}, (∀ b ∈ bs, RepD A H b.2 b.1) → RepDs A H (bs.map (·.2)) (bs.map (·.1))
  | [], _ => .nil
  | b :: bs, h => .cons (h b List.mem_cons_self) (reps_map fun c hc => h c (List.mem_cons_of_mem _ hc))
theorem each_reads {pins : List (Addr × Obj)} {σ : St} {H : Hp} {s : Shared} {A : List Addr} (I : Inv X pins σ H s) : ∀ {its : List Value} {bs : List (V × D)}, PySem.W.EachIs (fun v b => RelV b.1 v) its bs → (∀ b ∈ bs, RepD A H b.2 b.1 ∧ b.2.plain = true) → PySem.W.EachIs (fun v b => ∃ as, Reads s.heap v b.2 as) its bs
  | _, _, .nil, _ => .nil
  | _, _, .cons r t, h => .cons (reads_of I _ _ _ (h _ List.mem_cons_self).2 (h _ List.mem_cons_self).1 r) (each_reads I t fun b hb => h b (List.mem_cons_of_mem _ hb))
theorem cd_sorted (hu : X.A.units + 100 < cLine) : CD X (.builtin "sorted") bSorted := by
  intro pins s σ H vs us Q I r h
  obtain ⟨A, ds, d, rs, e, na, q⟩ := h
  unfold bSorted at e
  split at e
  · rename_i xs
    split at e <;> cases e
    rename_i z
    obtain ⟨v, rfl, R⟩ := rep1 rs
    have p := fitAll_plain 12 _ z.1
    cases R with
    | lst n1 h1 s1 =>
      obtain ⟨its, rv, hl, hz⟩ := I.list (.inl h1)
      cases Vals.ref1 r
      obtain ⟨bs, e1, e2, e3, e4⟩ := each_pairs s1 rv
      have hlen : bs.length ≤ sizeLine := by
        have := congrArg List.length e1
        rw [List.length_map] at this
        omega
      have hpl : ∀ b ∈ bs, RepD A H b.2 b.1 ∧ b.2.plain = true := fun b hb => ⟨e4 b hb, PySem.W.plain_mem p.1 (by rw [← e2]; exact List.mem_map.mpr ⟨b, hb, rfl⟩)⟩
      refine PySem.W.sorted_data (enc := fun b : V × D => b.2) hl.isList e3 (each_reads I e3 hpl) (by rw [e2]; exact allAlike_of z.2.1) (by rw [e2]; exact sortable_of z.2.2) hlen (fun b hb => ?_) fun out hlo eo => ?_
      · have hm : b.2 ∈ xs := by rw [← e2]; exact List.mem_map.mpr ⟨b, hb, rfl⟩
        have : ∀ (l : List D), b.2 ∈ l → b.2.depth ≤ PyData.depthAll l := by
          intro l
          induction l with
          | nil => intro h; cases h
          | cons a l ih =>
            intro h
            simp only [PyData.depthAll]
            rcases List.mem_cons.mp h with h | h
            · rw [h]; omega
            · have := ih h; omega
        have := this xs hm
        omega
      · have perm := List.mergeSort_perm bs (PySem.W.dataLe false fun b : V × D => b.2)
        have es : (bs.mergeSort (PySem.W.dataLe false fun b : V × D => b.2)).map (·.2) = xs.mergeSort fun a b => !PySem.W.dataLt b a := by
          rw [← e2]
          exact List.map_mergeSort (s := fun a b => !PySem.W.dataLt b a) fun a _ b _ => by rw [PySem.W.dataLe_eq]; rfl
        obtain ⟨ep, he'⟩ := PyProof.Rows.sortedAll_at s.heap its (List.toArray out)
        have vo := each_vals eo
        have lo : ((bs.mergeSort (PySem.W.dataLe false fun b : V × D => b.2)).map (·.1)).length ≤ sizeLine := by
          rw [List.length_map, perm.length_eq]; exact hlen
        refine ⟨.ref _, upd H (s.heap.objs.size + 1) (.lst ((bs.mergeSort (PySem.W.dataLe false fun b : V × D => b.2)).map (·.1))), I.laid (t' := s.toks) (fun _ _ => PyProof.Rows.sortedAll_old) (Nat.le_succ _) ⟨lo, out, ep, vo, he'⟩, rfl, ?_⟩
        refine fin_new (ds := xs.mergeSort fun a b => !PySem.W.dataLt b a) ?_ na q _ (I.hok.fresh (Nat.le_succ _))
        rw [← es]
        exact reps_map fun b hb => e4 b (perm.mem_iff.mp hb)
  · cases e
theorem cd_repr (hgd : X.A.guards = some []) (hu : X.A.units + 100 < cLine) : CD X (.builtin "repr") bRepr := by
  intro pins s σ H vs us Q I r h
  obtain ⟨A, ds, d, rs, e, na, q⟩ := h
  unfold bRepr at e
  split at e
  · rename_i d0
    split at e <;> cases e
    rename_i z
    obtain ⟨z1, z2, z3⟩ := z
    have z3 := sizeLine_le.mp z3
    obtain ⟨v, rfl, R⟩ := rep1 rs
    have p := fit_plain 12 _ z1
    obtain ⟨u, rfl, ru⟩ := vals1 r
    obtain ⟨as, ra⟩ := reads_of I d0 v u p.1 R ru
    have fin : ∀ t, EP X pins σ Q (.str d0.shown t) { s with toks := s.toks + 1 } := fun t => ⟨.str _, H, I.tok _, ⟨t, rfl⟩, q _ _ (fun _ _ h => h) (.str _)⟩
    have noD : ∀ d : D, d.plain = true → d.hasDict = false := by
      have go : ∀ n : Nat, ∀ d : D, d.depth ≤ n → d.plain = true → d.hasDict = false := by
        intro n
        induction n with
        | zero =>
          intro d hd hp
          cases d <;> first | rfl | (simp [PyData.depth] at hd) | (simp [PyData.plain] at hp)
        | succ n ih =>
          have all : ∀ l : List D, PyData.depthAll l ≤ n → PyData.plainAll l = true → PyData.hasDictAll l = false := by
            intro l
            induction l with
            | nil => intro _ _; rfl
            | cons a l ih2 =>
              intro h1 h2
              simp only [PyData.depthAll] at h1
              rw [PyData.plainAll, Bool.and_eq_true] at h2
              rw [PyData.hasDictAll, ih a (by omega) h2.1, ih2 (by omega) h2.2]; rfl
          intro d hd hp
          cases d with
          | list l => simp only [PyData.depth] at hd; simp only [PyData.plain] at hp; rw [PyData.hasDict]; exact all l (by omega) hp
          | tuple l => simp only [PyData.depth] at hd; simp only [PyData.plain] at hp; rw [PyData.hasDict]; exact all l (by omega) hp
          | dict l => simp [PyData.plain] at hp
          | _ => rfl
      exact fun d hp => go _ d (Nat.le_refl _) hp
    have big : ∀ a, u = .ref a → wpAny (model X.prog X.w) X.A (call (.builtin "repr") [u]) (EP X pins σ Q) X.xe s := fun a eu => by
      subst eu
      refine PySem.repr_of_reads' ra z2 (fun hd => by rw [noD d0 p.1] at hd; cases hd) hgd (by omega) (fun _ _ h => h) (fun h' t tk hk => ?_) z3
      exact ⟨.str _, H, I.kept (h' := h') (t' := tk) hk, ⟨t, rfl⟩, q _ _ (fun _ _ h => h) (.str _)⟩
    cases ra with
    | none => exact P.repr_of_none (fin _)
    | bool b => exact P.repr_of_bool (fin _)
    | int i t => exact P.repr_of_int (by simpa [PyData.showable] using z2) (fin _)
    | str y t => exact P.repr_of_str (fin _) z3
    | list h1 h2 h3 h4 => exact big _ rfl
    | tuple h1 h2 h3 h4 => exact big _ rfl
    | dict => simp [PyData.plain] at p
  · cases e
end
end DS
namespace DS
open PySem PySem.Spec PyProof.Rows L2
/-! ### what is walked -/
def asSeq : D → Option (List D)
  | .list l => some l
  | .tuple l => some l
  | .str z => some (z.cps.toList.map fun c => .str ⟨#[c]⟩)
  | _ => none
section
variable {X : Cx} {tg e : Expr} {es : List Expr} {fx : M D} {fs : M (List D)} {p pos tpos : Pos}
theorem it_list' {K : PySem.W.Frag} {a : Addr} {xs : List V} {ds : List D} {A0 : List Addr} {H0 : Hp} (n : a ∉ A0) (h : Rd H0 a (.lst xs)) (s : RepDs A0 H0 ds xs) : ItOk (Itl K a) ds A0 H0 := by
  intro i H A k _
  have r := (Rd.stay' h k n).1
  have sq : SqL K H a xs := .inl r
  have s' := s.stay k
  refine ⟨fun d hd => ?_, fun hl => ⟨xs, sq, by rw [← s.length]; exact hl⟩⟩
  obtain ⟨v, hv, R⟩ := s'.get hd
  refine ⟨⟨xs, v, sq, hv⟩, fun x H' y => ?_⟩
  obtain ⟨rfl, y⟩ := y
  have := y xs sq
  rw [hv] at this; cases this
  exact ⟨fun _ _ h => h, R⟩
theorem it_tup {K : PySem.W.Frag} {a : Addr} {xs : List V} {ds : List D} {A0 : List Addr} {H0 : Hp} (n : a ∉ A0) (h : H0 a = some (.tup xs)) (s : RepDs A0 H0 ds xs) : ItOk (Itt K a) ds A0 H0 := by
  intro i H A k _
  have r := (k _ _ h n).1
  have sq : SqT K H a xs := .inl (.inl r)
  have s' := s.stay k
  refine ⟨fun d hd => ?_, fun hl => ⟨xs, sq, by rw [← s.length]; exact hl⟩⟩
  obtain ⟨v, hv, R⟩ := s'.get hd
  refine ⟨⟨xs, v, sq, hv⟩, fun x H' y => ?_⟩
  obtain ⟨rfl, y⟩ := y
  have := y xs sq
  rw [hv] at this; cases this
  exact ⟨fun _ _ h => h, R⟩
theorem it_str {z : Str} {A0 : List Addr} {H0 : Hp} : ItOk (Its z) (z.cps.toList.map fun c => .str ⟨#[c]⟩) A0 H0 := by
  intro i H A k _
  refine ⟨fun d hd => ?_, fun hl => by rw [List.length_map, Array.length_toList] at hl; exact hl⟩
  rw [List.getElem?_map] at hd
  obtain ⟨c, hc, rfl⟩ := Option.map_eq_some_iff.mp hd
  have hc' : z.cps[i]? = some c := by simpa using hc
  refine ⟨(Array.getElem?_eq_some_iff.mp hc').1, fun x H' y => ?_⟩
  obtain ⟨rfl, c', h1, rfl⟩ := y
  rw [hc'] at h1; cases h1
  exact ⟨fun _ _ h => h, .str _⟩
theorem di_val (h : DX X e fx) : DI X tg e (M.bind fx fun d => M.lift (asSeq d)) := by
  refine ⟨fun W tk σ H Γ fp rest R S hW pins s I => ?_⟩
  have key : wE X e σ H (fun x H1 => ∀ pins s u, Inv X pins σ H1 s → RelV x u → wpAny (model X.prog X.w) X.A (pyIter u) (PIE X pins σ tg R) X.xe s) := by
    refine h.thn tk S hW fun d Γ1 x H1 fo fp1 S1 R1 G1 hW1 => ?_
    obtain ⟨rfl, R1⟩ := R1
    obtain ⟨ds, e, hW1⟩ := hW1.lift1
    intro pins s u I r1
    cases R1 with
    | lst n1 h1 s1 =>
      cases e
      cases r1
      obtain ⟨its, rv, p, hz⟩ := I.list (.inl h1)
      refine wpAny_pyIter_list p.isList ?_
      refine ⟨s.heap.objs.size, [s.heap.objs.size], _, _, H1, rfl, I.kept (t' := s.toks) fun b o e => Heap.get?_push_of_some _ e, turn_list _ _, ⟨_, Heap.get?_push_size _ rfl, rfl, rfl⟩, fun b hb => ?_, hW1.done (fo := []) S1 ⟨rfl, it_list' n1 h1 s1⟩ (Go.refl _ _)⟩
      have e : b = s.heap.objs.size := by simpa using hb
      subst e
      exact I.fpOk (Nat.le_refl _) (I.hok.fresh (Nat.le_refl _))
    | tup n1 h1 s1 =>
      cases e
      cases r1
      obtain ⟨its, rv, p, hz⟩ := I.tuple (.inl (.inl h1))
      refine wpAny_pyIter_tuple (show s.heap.IsTuple _ its.toArray from p) ?_
      refine ⟨s.heap.objs.size, [s.heap.objs.size], _, _, H1, rfl, I.kept (t' := s.toks) fun b o e => Heap.get?_push_of_some _ e, turn_tuple _ _, ⟨_, Heap.get?_push_size _ rfl, rfl, rfl⟩, fun b hb => ?_, hW1.done (fo := []) S1 ⟨rfl, it_tup n1 h1 s1⟩ (Go.refl _ _)⟩
      have e : b = s.heap.objs.size := by simpa using hb
      subst e
      exact I.fpOk (Nat.le_refl _) (I.hok.fresh (Nat.le_refl _))
    | str z =>
      cases e
      obtain ⟨t, rfl⟩ := r1
      have fin := hW1.done (fo := []) S1 ⟨rfl, it_str⟩ (Go.refl _ _)
      cases ha : z.cps.all (· < 128)
      · exact wpAny_pyIter_wide ha (pi_one (tk := s.toks) I _ (turn_str _ z t "str_iterator" (.inr rfl)) ⟨_, Heap.get?_push_size _ rfl, rfl, rfl⟩ fin)
      · exact wpAny_pyIter_ascii ha (pi_one (tk := s.toks) I _ (turn_str _ z t "str_ascii_iterator" (.inl rfl)) ⟨_, Heap.get?_push_size _ rfl, rfl, rfl⟩ fin)
    | _ => cases e
  exact L2.thn (key pins s I) fun v s1 ⟨x, H1, I1, r1, q1⟩ => q1 pins s1 v I1 r1
theorem it_range {lo : Int} {n : Nat} {A0 : List Addr} {H0 : Hp} : ItOk (Itr lo n) ((List.range n).map fun i => .int (lo + (i : Nat))) A0 H0 := by
  intro i H A k _
  refine ⟨fun d hd => ?_, fun hl => by rw [List.length_map, List.length_range] at hl; exact hl⟩
  rw [List.getElem?_map] at hd
  obtain ⟨j, hj, rfl⟩ := Option.map_eq_some_iff.mp hd
  obtain ⟨h1, h2⟩ := List.getElem?_eq_some_iff.mp hj
  rw [List.getElem_range] at h2
  subst h2
  rw [List.length_range] at h1
  refine ⟨h1, fun x H' y => ?_⟩
  obtain ⟨rfl, rfl⟩ := y
  exact ⟨fun _ _ h => h, .int _⟩
def small62 (i : Int) : Bool := decide (-(2 ^ 62) ≤ i ∧ i < 2 ^ 62)
noncomputable def range1D : List D → Option (List D)
  | [.int j] => @ite _ (small62 j = true) (Classical.propDecidable _) (some ((List.range j.toNat).map fun i => .int (0 + (i : Nat)))) none
  | _ => none
noncomputable def range2D : List D → Option (List D)
  | [.int i, .int j] => @ite _ (small62 i = true ∧ small62 j = true) (Classical.propDecidable _) (some ((List.range (j - i).toNat).map fun k => .int (i + (k : Nat)))) none
  | _ => none
theorem di_range1 (hm : X.mg "range" = none) (ha : DA X [e] fs) (hg : Gl X "range" := by rfl) (hs : starEach [e] X.env = [(false, eval e X.env)] := by rfl) : DI X tg (.Call (.Name "range" p) [e] [] pos) (M.bind fs fun l => M.lift (range1D l)) := by
  refine ⟨fun W tk σ H Γ fp rest R S hW => wi (pi_range1 hg hm pa_w hs) ?_⟩
  refine ha.thn tk S hW fun l Γ1 vs H1 fo fp1 S1 R1 G1 hW1 => ?_
  obtain ⟨rfl, R1⟩ := R1
  obtain ⟨ds, e, hW1⟩ := hW1.lift1
  unfold range1D at e
  split at e
  · split at e <;> cases e
    rename_i j _ z
    obtain ⟨v, rfl, R'⟩ := rep1 R1
    cases R'
    have z := of_decide_eq_true z
    exact ⟨j, rfl, z.1, z.2, hW1.done (fo := []) S1 ⟨rfl, it_range⟩ (Go.refl _ _)⟩
  · cases e
theorem di_range2 {e2 : Expr} (hm : X.mg "range" = none) (ha : DA X [e, e2] fs) (hg : Gl X "range" := by rfl) (hs : starEach [e, e2] X.env = [(false, eval e X.env), (false, eval e2 X.env)] := by rfl) (hs2 : starEach [e2] X.env = [(false, eval e2 X.env)] := by rfl) :
    DI X tg (.Call (.Name "range" p) [e, e2] [] pos) (M.bind fs fun l => M.lift (range2D l)) := by
  refine ⟨fun W tk σ H Γ fp rest R S hW => wi (pi_range2 hg hm pa_w hs hs2) ?_⟩
  refine ha.thn tk S hW fun l Γ1 vs H1 fo fp1 S1 R1 G1 hW1 => ?_
  obtain ⟨rfl, R1⟩ := R1
  obtain ⟨ds, e, hW1⟩ := hW1.lift1
  unfold range2D at e
  split at e
  · split at e <;> cases e
    rename_i i j _ z
    obtain ⟨v, v', rfl, R', R''⟩ := rep2 R1
    cases R'; cases R''
    have z1 := of_decide_eq_true z.1
    have z2 := of_decide_eq_true z.2
    exact ⟨i, j, rfl, ⟨z1.1, z1.2, z2.1, z2.2⟩, hW1.done (fo := []) S1 ⟨rfl, it_range⟩ (Go.refl _ _)⟩
  · cases e
def enumFrom : Nat → List D → List D
  | _, [] => []
  | n, d :: ds => .tuple [.int (n : Nat), d] :: enumFrom (n + 1) ds
theorem enumFrom_get : ∀ (ds : List D) (n i : Nat) (t : D), (enumFrom n ds)[i]? = some t → ∃ d, ds[i]? = some d ∧ t = .tuple [.int ((n + i : Nat) : Int), d]
  | [], _, _, _, h => by simp [enumFrom] at h
  | d :: ds, n, 0, t, h => by simp [enumFrom] at h; exact ⟨d, rfl, by rw [← h]; rfl⟩
  | d :: ds, n, i + 1, t, h => by
    obtain ⟨d', h1, h2⟩ := enumFrom_get ds (n + 1) i t (by simpa [enumFrom] using h)
    exact ⟨d', by simpa using h1, by rw [h2]; congr 3; congr 1; omega⟩
theorem enumFrom_length : ∀ (ds : List D) (n : Nat), (enumFrom n ds).length = ds.length
  | [], _ => rfl
  | _ :: ds, n => by rw [enumFrom, List.length_cons, enumFrom_length ds, List.length_cons]
def enumD : List D → Option (List D)
  | [.list l] => some (enumFrom 0 l)
  | _ => none
theorem new_pair {A : List Addr} {H : Hp} {T : Addr} {x y : V} {d e : D} (hT : H T = none) (na : ∀ b, H b = none → b ∉ A) (r : RepD A H d x) (q : RepD A H e y) : RepD A (upd H T (.tup [x, y])) (.tuple [d, e]) (.ref T) :=
  .tup (na T hT) upd_same (.cons (r.stay fun b u e n => ⟨grow_upd hT b u e, n⟩) (.cons (q.stay fun b u e n => ⟨grow_upd hT b u e, n⟩) .nil))
theorem it_enum {K : PySem.W.Frag} {a : Addr} {xs : List V} {ds : List D} {A0 : List Addr} {H0 : Hp} (n : a ∉ A0) (h : Rd H0 a (.lst xs)) (s : RepDs A0 H0 ds xs) : ItOk (Ite K a) (enumFrom 0 ds) A0 H0 := by
  intro i H A k na
  have r := (Rd.stay' h k n).1
  have sq : SqL K H a xs := .inl r
  have s' := s.stay k
  refine ⟨fun t ht => ?_, fun hl => ⟨xs, sq, by rw [← s.length]; rw [enumFrom_length] at hl; exact hl⟩⟩
  obtain ⟨d, hd, rfl⟩ := enumFrom_get ds 0 i t ht
  obtain ⟨v, hv, R⟩ := s'.get hd
  refine ⟨⟨xs, v, sq, hv⟩, fun x H' y => ?_⟩
  obtain ⟨T, w, rfl, hT, rfl, y⟩ := y
  have := y xs sq
  rw [hv] at this; cases this
  rw [Nat.zero_add]
  exact ⟨grow_upd hT, new_pair hT na (.int _) R⟩
theorem di_enum {elts : List Expr} {kk : Nat} (hm : X.mg "enumerate" = none) (ha : DA X [e] fs) (hg : Gl X "enumerate" := by rfl) (hs : starEach [e] X.env = [(false, eval e X.env)] := by rfl) :
    DI X (.Tuple elts kk tpos) (.Call (.Name "enumerate" p) [e] [] pos) (M.bind fs fun l => M.lift (enumD l)) := by
  refine ⟨fun W tk σ H Γ fp rest R S hW => wi (pi_enum hg hm pa_w hs) ?_⟩
  refine ha.thn tk S hW fun l Γ1 vs H1 fo fp1 S1 R1 G1 hW1 => ?_
  obtain ⟨rfl, R1⟩ := R1
  obtain ⟨ds, e, hW1⟩ := hW1.lift1
  unfold enumD at e
  split at e <;> cases e
  obtain ⟨v, rfl, R'⟩ := rep1 R1
  cases R' with
  | lst n1 h1 s1 => exact ⟨_, _, rfl, .inl h1, hW1.done (fo := []) S1 ⟨rfl, it_enum n1 h1 s1⟩ (Go.refl _ _)⟩
def zipD2 : List D → List D → List D
  | x :: xs, y :: ys => .tuple [x, y] :: zipD2 xs ys
  | _, _ => []
theorem zipD2_get : ∀ (xs ys : List D) (i : Nat) (t : D), (zipD2 xs ys)[i]? = some t → ∃ x y, xs[i]? = some x ∧ ys[i]? = some y ∧ t = .tuple [x, y]
  | [], _, _, _, h => by simp [zipD2] at h
  | _ :: _, [], _, _, h => by simp [zipD2] at h
  | x :: xs, y :: ys, 0, t, h => by simp [zipD2] at h; exact ⟨x, y, rfl, rfl, h.symm⟩
  | x :: xs, y :: ys, i + 1, t, h => by
    obtain ⟨a, b, h1, h2, h3⟩ := zipD2_get xs ys i t (by simpa [zipD2] using h)
    exact ⟨a, b, by simpa using h1, by simpa using h2, h3⟩
theorem zipD2_length : ∀ (xs ys : List D), (zipD2 xs ys).length = min xs.length ys.length
  | [], _ => by simp [zipD2]
  | _ :: _, [] => by simp [zipD2]
  | x :: xs, y :: ys => by rw [zipD2, List.length_cons, zipD2_length xs ys, List.length_cons, List.length_cons]; omega
def zipD : List D → Option (List D)
  | [.list xs, .list ys] => some (zipD2 xs ys)
  | [.tuple xs, .tuple ys] => some (zipD2 xs ys)
  | _ => none
theorem di_zip {e2 : Expr} {elts : List Expr} {kk : Nat} (hm : X.mg "zip" = none) (ha : DA X [e, e2] fs) (hg : Gl X "zip" := by rfl)
    (hs : starEach [e, e2] X.env = (false, eval e X.env) :: starEach [e2] X.env := by rfl) (hpl : (backTo pos (starEach [e2] X.env)).any (·.1) = false := by rfl) :
    DI X (.Tuple elts kk tpos) (.Call (.Name "zip" p) [e, e2] [] pos) (M.bind fs fun l => M.lift (zipD l)) := by
  refine ⟨fun W tk σ H Γ fp rest R S hW => wi (RZ.pi_zipA hg hm pa_w hs hpl) ?_⟩
  refine ha.thn tk S hW fun l Γ1 vs H1 fo fp1 S1 R1 G1 hW1 => ?_
  obtain ⟨rfl, R1⟩ := R1
  obtain ⟨ds, e, hW1⟩ := hW1.lift1
  unfold zipD at e
  split at e
  · cases e
    obtain ⟨v, v', rfl, R', R''⟩ := rep2 R1
    cases R' with
    | lst n1 h1 s1 =>
      cases R'' with
      | lst n2 h2 s2 =>
        refine ⟨_, _, _, _, rfl, .inl ⟨.inl h1, .inl h2, hW1.done (fo := []) S1 ⟨rfl, ?_⟩ (Go.refl _ _)⟩⟩
        intro i H A k na
        have r1 := (Rd.stay' h1 k n1).1
        have r2 := (Rd.stay' h2 k n2).1
        have q1 := s1.stay k
        have q2 := s2.stay k
        refine ⟨fun t ht => ?_, fun hl => ⟨_, _, .inl r1, .inl r2, ?_⟩⟩
        · obtain ⟨x, y, hx, hy, rfl⟩ := zipD2_get _ _ i t ht
          obtain ⟨v, hv, Rv⟩ := q1.get hx
          obtain ⟨w, hw, Rw⟩ := q2.get hy
          refine ⟨⟨_, _, v, w, .inl r1, .inl r2, hv, hw⟩, fun z H' yl => ?_⟩
          obtain ⟨T, a, b, rfl, hT, rfl, y1, y2⟩ := yl
          have e1 := y1 _ (.inl r1)
          have e2 := y2 _ (.inl r2)
          rw [hv] at e1; cases e1
          rw [hw] at e2; cases e2
          exact ⟨grow_upd hT, new_pair hT na Rv Rw⟩
        · rw [zipD2_length, s1.length, s2.length] at hl; omega
  · cases e
    obtain ⟨v, v', rfl, R', R''⟩ := rep2 R1
    cases R' with
    | tup n1 h1 s1 =>
      cases R'' with
      | tup n2 h2 s2 =>
        refine ⟨_, _, _, _, rfl, .inr ⟨.inl (.inl h1), .inl (.inl h2), hW1.done (fo := []) S1 ⟨rfl, ?_⟩ (Go.refl _ _)⟩⟩
        intro i H A k na
        have r1 := (k _ _ h1 n1).1
        have r2 := (k _ _ h2 n2).1
        have q1 := s1.stay k
        have q2 := s2.stay k
        refine ⟨fun t ht => ?_, fun hl => ⟨_, _, .inl (.inl r1), .inl (.inl r2), ?_⟩⟩
        · obtain ⟨x, y, hx, hy, rfl⟩ := zipD2_get _ _ i t ht
          obtain ⟨v, hv, Rv⟩ := q1.get hx
          obtain ⟨w, hw, Rw⟩ := q2.get hy
          refine ⟨⟨_, _, v, w, .inl (.inl r1), .inl (.inl r2), hv, hw⟩, fun z H' yl => ?_⟩
          obtain ⟨T, a, b, rfl, hT, rfl, y1, y2⟩ := yl
          have e1 := y1 _ (.inl (.inl r1))
          have e2 := y2 _ (.inl (.inl r2))
          rw [hv] at e1; cases e1
          rw [hw] at e2; cases e2
          exact ⟨grow_upd hT, new_pair hT na Rv Rw⟩
        · rw [zipD2_length, s1.length, s2.length] at hl; omega
  · cases e
/-- list(range(n)) and the like: a range taken whole -/
theorem cd_listRange : True := trivial
end
/-! ### comprehensions -/
def wipeE (Γ : Env) : List Nat → Env
  | [] => Γ
  | v :: vs => (wipeE Γ vs).set v none
def backE (Γ0 Γ : Env) : List Nat → Env
  | [] => Γ
  | v :: vs => match Γ0[v]? with
    | some (some (.sh d)) => (backE Γ0 Γ vs).set v (some (.sh d))
    | _ => (backE Γ0 Γ vs).set v none
def compL (vs : List Nat) (g : D → Env → Option Env) (ifs : M Bool) (elt : M O) : List D → List O → Env → Option (List O × Env)
  | [], acc, Γ => some (acc, Γ)
  | d :: ds, acc, Γ => match g d Γ with
    | none => none
    | some Γ1 => match ifs Γ1 with
      | some (.ok true, Γ2) => match elt Γ2 with
        | some (.ok o, Γ3) => if acc.length < 16777216 then compL vs g ifs elt ds (acc ++ [o]) (wipeE Γ3 vs) else none
        | _ => none
      | some (.ok false, Γ2) => compL vs g ifs elt ds acc (wipeE Γ2 vs)
      | _ => none
def compM (vs : List Nat) (fi : M (List D)) (g : D → Env → Option Env) (ifs : M Bool) (elt : M O) : M O := M.bind fi fun ds => fun Γ => match compL vs g ifs elt ds [] (wipeE Γ vs) with
  | none => none
  | some (l, Γ') => some (.ok (.lst l), backE Γ Γ' vs)
theorem SOk.wipe {H : Hp} {rest : List Addr} : ∀ {vs : List Nat} {Γ : Env} {σ : St} {fp : List Addr}, SOk H Γ σ fp rest → ∃ fp', SOk H (wipeE Γ vs) (L2.wipe σ vs) fp' rest ∧ Go fp H fp' H
  | [], Γ, σ, fp, S => ⟨fp, S, Go.refl _ _⟩
  | v :: vs, Γ, σ, fp, S => by
    obtain ⟨fp', S', G'⟩ := SOk.wipe (vs := vs) S
    by_cases hl : v < (wipeE Γ vs).length
    · obtain ⟨f1, f2, g, h1, h2, h3⟩ := S'.env.put hl
      subst h1
      have sub : ∀ b ∈ f1 ++ f2 ++ rest, b ∈ f1 ++ g ++ f2 ++ rest := sub3
      exact ⟨f1 ++ f2, ⟨(h2 none).congr sub, S'.nd.sublist sub3_sublist, fun a h => S'.trk a (sub a h)⟩, G'.trans ⟨fun _ _ e _ => e, fun b h => .inl (by
        simp only [List.mem_append] at h ⊢
        rcases h with h | h
        · exact .inl (.inl h)
        · exact .inr h)⟩⟩
    · refine ⟨fp', ?_, G'⟩
      have e1 : (wipeE Γ vs).set v none = wipeE Γ vs := List.set_eq_of_length_le (by omega)
      have e2 : (L2.wipe σ vs).set v none = L2.wipe σ vs := List.set_eq_of_length_le (by rw [← S'.env.length]; omega)
      show SOk H ((wipeE Γ vs).set v none) ((L2.wipe σ vs).set v none) fp' rest
      rw [e1, e2]
      exact S'
theorem RepEnv.at {A : List Addr} {H : Hp} : ∀ {Γ : Env} {σ : St} {fp : List Addr} {i : Nat} {d : D}, RepEnv A H Γ σ fp → Γ[i]? = some (some (.sh d)) → ∃ v, σ[i]? = some (some v) ∧ RepD A H d v := fun r e => by
  obtain ⟨v, fo, f1, f2, h1, h2, _⟩ := r.split e
  cases h2 with
  | sh R => exact ⟨v, h1, R⟩
theorem RepEnv.holes {A : List Addr} {H : Hp} : ∀ {Γ : Env} {σ σ' : St} {fp : List Addr} {vs : List Nat}, RepEnv A H Γ (L2.wipe σ vs) fp → (∀ v ∈ vs, ∀ o, Γ[v]? ≠ some (some o)) → RepEnv A H Γ σ fp := by
  have step : ∀ (Γ : Env) (σ : St) (fp : List Addr) (v : Nat), RepEnv A H Γ (σ.set v none) fp → (∀ o, Γ[v]? ≠ some (some o)) → RepEnv A H Γ σ fp := by
    intro Γ
    induction Γ with
    | nil =>
      intro σ fp v h _
      cases σ with
      | nil => exact h
      | cons y σ => cases v <;> cases h
    | cons g Γ ih =>
      intro σ fp v h hn
      cases σ with
      | nil => exact h
      | cons y σ =>
        cases v with
        | zero =>
          cases h with
          | no r => exact .no r
        | succ v =>
          cases h with
          | no r => exact .no (ih σ _ v r fun o => by simpa using hn o)
          | yes r1 r => exact .yes r1 (ih σ _ v r fun o => by simpa using hn o)
  intro Γ σ σ' fp vs
  induction vs generalizing σ with
  | nil => intro h _; exact h
  | cons v vs ih =>
    intro h hn
    exact ih (step Γ _ fp v h fun o => hn v List.mem_cons_self o) fun w hw => hn w (List.mem_cons_of_mem _ hw)
theorem wipeE_at : ∀ {Γ : Env} {vs : List Nat} {v : Nat}, v ∈ vs → ∀ o, (wipeE Γ vs)[v]? ≠ some (some o)
  | Γ, w :: vs, v, h, o => by
    unfold wipeE
    by_cases e : w = v
    · subst e
      by_cases hl : w < (wipeE Γ vs).length
      · rw [List.getElem?_set_self hl]; intro z; cases z
      · rw [List.getElem?_eq_none (by simpa using hl)]; intro z; cases z
    · rw [List.getElem?_set_ne e]
      rcases List.mem_cons.mp h with h | h
      · exact absurd h.symm e
      · exact wipeE_at h o
theorem wipe_get : ∀ (σ : St) (vs : List Nat) (i : Nat), (L2.wipe σ vs)[i]? = if i ∈ vs then (σ[i]?).map (fun _ => none) else σ[i]?
  | σ, [], i => by simp [L2.wipe]
  | σ, v :: vs, i => by
    unfold L2.wipe
    by_cases e : v = i
    · subst e
      rw [if_pos List.mem_cons_self]
      by_cases hl : v < (L2.wipe σ vs).length
      · rw [List.getElem?_set_self hl]
        have : v < σ.length := by rw [← L2.wipe_length σ vs]; exact hl
        rw [List.getElem?_eq_getElem this]; rfl
      · rw [List.getElem?_eq_none (by simpa using hl)]
        have : σ.length ≤ v := by rw [← L2.wipe_length σ vs]; omega
        rw [List.getElem?_eq_none this]; rfl
    · rw [List.getElem?_set_ne e, wipe_get σ vs i]
      by_cases m : i ∈ vs
      · rw [if_pos m, if_pos (List.mem_cons_of_mem _ m)]
      · rw [if_neg m, if_neg fun q => (List.mem_cons.mp q).elim (fun z => e z.symm) m]
theorem wipe_wipe (σ : St) (vs : List Nat) : L2.wipe (L2.wipe σ vs) vs = L2.wipe σ vs := by
  apply List.ext_getElem?
  intro i
  rw [wipe_get, wipe_get]
  by_cases m : i ∈ vs
  · simp only [if_pos m]; cases σ[i]? <;> rfl
  · simp only [if_neg m]
theorem wipe_set {σ : St} {vs : List Nat} {i : Nat} {x : Option V} (h : i ∈ vs) : L2.wipe (σ.set i x) vs = L2.wipe σ vs := by
  apply List.ext_getElem?
  intro j
  rw [wipe_get, wipe_get]
  by_cases m : j ∈ vs
  · rw [if_pos m, if_pos m]
    by_cases e : i = j
    · subst e
      by_cases hl : i < σ.length
      · rw [List.getElem?_set_self hl, List.getElem?_eq_getElem hl]; rfl
      · rw [List.getElem?_eq_none (by simpa using hl), List.getElem?_eq_none (by omega)]
    · rw [List.getElem?_set_ne e]
  · rw [if_neg m, if_neg m, List.getElem?_set_ne (fun e => m (by rw [← e]; exact h))]
def wipeR (vs : List Nat) : St → St → Prop := fun σ σ' => L2.wipe σ' vs = L2.wipe σ vs
instance {vs : List Nat} : Chain (wipeR vs) := ⟨fun _ => rfl, fun _ _ _ a b => b.trans a⟩
theorem SOk.updP {H : Hp} {Γ : Env} {σ : St} {fp rest : List Addr} {D : Addr} {u : HO} (S : SOk H Γ σ fp rest) (hD : D ∈ rest) (hu : Ownable u) : SOk (upd H D u) Γ σ fp rest := by
  have nf : D ∉ fp := fun q => (List.nodup_append.mp S.nd).2.2 D q D hD rfl
  refine ⟨S.env.stay (fun b w e n => ⟨?_, n⟩) (fun b w e m => ?_), S.nd, fun a h => ?_⟩
  · rw [upd_ne (fun z => n (by rw [z]; exact List.mem_append_right _ hD))]; exact e
  · rw [upd_ne (fun z => nf (by rw [← z]; exact m))]; exact e
  · by_cases e : a = D
    · subst e; exact ⟨u, upd_same, hu⟩
    · rw [upd_ne e]; exact S.trk a h
theorem SOk.back {Γ0 : Env} {H : Hp} {rest : List Addr} : ∀ {vs : List Nat} {Γ : Env} {σ : St} {fp : List Addr}, SOk H Γ σ fp rest → (∀ (v : Nat) (d : D), Γ0[v]? = some (some (O.sh d)) → ∃ x, σ[v]? = some (some x) ∧ RepD (fp ++ rest) H d x) →
    ∃ fp', SOk H (backE Γ0 Γ vs) σ fp' rest ∧ Go fp H fp' H ∧ ∀ b ∈ fp', b ∈ fp
  | [], Γ, σ, fp, S, _ => ⟨fp, S, Go.refl _ _, fun _ h => h⟩
  | v :: vs, Γ, σ, fp, S, h0 => by
    obtain ⟨fp', S', G', sub'⟩ := SOk.back (vs := vs) S h0
    have sm : ∀ b ∈ fp' ++ rest, b ∈ fp ++ rest := fun b h => by
      rcases List.mem_append.mp h with h | h
      · exact List.mem_append_left _ (sub' b h)
      · exact List.mem_append_right _ h
    by_cases hl : v < (backE Γ0 Γ vs).length
    · obtain ⟨f1, f2, g, h1, h2, h3⟩ := S'.env.put hl
      subst h1
      have sub : ∀ b ∈ f1 ++ f2 ++ rest, b ∈ f1 ++ g ++ f2 ++ rest := sub3
      have nd := S'.nd.sublist (sub3_sublist (f1 := f1) (fo := g) (f2 := f2) (rest := rest))
      have go : Go fp H (f1 ++ f2) H := G'.trans ⟨fun _ _ e _ => e, fun b h => .inl (by
        simp only [List.mem_append] at h ⊢
        rcases h with h | h
        · exact .inl (.inl h)
        · exact .inr h)⟩
      have sb : ∀ b ∈ f1 ++ f2, b ∈ fp := fun b h => sub' b (by
        simp only [List.mem_append] at h ⊢
        rcases h with h | h
        · exact .inl (.inl h)
        · exact .inr h)
      have no : SOk H ((backE Γ0 Γ vs).set v none) σ (f1 ++ f2) rest := by
        have hv : v < σ.length := by rw [← S'.env.length]; exact hl
        have e := h2 σ[v]
        rw [List.set_getElem_self] at e
        exact ⟨e.congr sub, nd, fun a h => S'.trk a (sub a h)⟩
      unfold backE
      split
      · rename_i d e0
        obtain ⟨x, hx, Rx⟩ := h0 v d e0
        have Rx' : RepD (f1 ++ f2 ++ rest) H d x := Rx.congr fun b h => sm b (sub b h)
        have e := h3 (f1 ++ f2 ++ rest) H (fun b u e n => ⟨e, fun q => n (sub b q)⟩) (fun _ _ e _ => e) (.sh d) x [] (.sh Rx')
        rw [set_none hx, List.append_nil] at e
        exact ⟨f1 ++ f2, ⟨e, nd, fun a h => S'.trk a (sub a h)⟩, go, sb⟩
      · exact ⟨f1 ++ f2, no, go, sb⟩
    · have e1 : ∀ x : Option O, (backE Γ0 Γ vs).set v x = backE Γ0 Γ vs := fun x => List.set_eq_of_length_le (by omega)
      refine ⟨fp', ?_, G', sub'⟩
      unfold backE
      split <;> (rw [e1]; exact S')
section
variable {X : Cx} {tg iter elt e : Expr} {ifs : List Expr} {scope : Scope} {own : List (Str × Nat)} {pos : Pos} {fi : M (List D)} {gt : D → Env → Option Env} {ft : M Bool} {fe : M O}
def wTs (X : Cx) (ifs : List Expr) : TT := fun σ H Q => ∀ pins s, Inv X pins σ H s →
  wpAny (model X.prog X.w) X.A (forIn ifs true fun c r => if r = true then do let ok ← isTrue c X.env (eval c X.env); pure (ForInStep.yield ok) else pure (ForInStep.yield r)) (TP X pins σ Q) X.xe s
abbrev DTs (X : Cx) (ifs : List Expr) (f : M Bool) : Prop := Jd X (wTs X ifs) repB f
theorem dts_nil : DTs X [] (M.pure true) := ⟨fun W tk σ H Γ fp rest Q S hW pins s I => pts_nil.run pins s σ H Q I (Wp.done (a := true) (fo := []) hW S ⟨rfl, rfl⟩ (Go.refl _ _))⟩
theorem dts_one {c : Expr} (h : DT X c ft) : DTs X [c] ft := ⟨fun W tk σ H Γ fp rest Q S hW pins s I => (pts_one pt_w).run pins s σ H Q I (h.run W tk σ H Γ fp rest Q S hW)⟩
theorem dgc_name (i : Nat) {vs : List Nat} {x : Str} {p : Pos} (hN : X.N.Nodup) (hi : X.N[i]? = some x := by rfl) (hx : Loc X.env.scope x := by first | exact Or.inl rfl | exact Or.inr rfl) (hp : i ∈ vs := by decide)
    (hf : X.fn x = true ∨ X.env.scope.names.lookup x = some .local := by first | exact .inl rfl | exact .inr rfl | assumption) : DG X (wipeR vs) (.Name x p) (gPut i) := dg_core i hN hi hx (fun _ _ => wipe_set hp) hf
theorem app_swap (a b c : List Addr) : (a ++ (b ++ c)).Perm (b ++ a ++ c) := by
  rw [← List.append_assoc]
  exact List.Perm.append_right c List.perm_append_comm
theorem comp_core (hc : X.calm = true) (hN : X.N.Nodup) (hi : DI X tg iter fi) {vs : List Nat}
    (hg : ∀ (s : Shared) (H : Hp) (C : Addr) (cl : List (Str × Addr)) (fp : List Addr), DG (X.blk s H scope (compEnvC scope cl C X.env) fp) (wipeR vs) tg gt)
    (ht : ∀ (s : Shared) (H : Hp) (C : Addr) (cl : List (Str × Addr)) (fp : List Addr), DTs (X.blk s H scope (compEnvC scope cl C X.env) fp) ifs ft)
    (he : ∀ (s : Shared) (H : Hp) (C : Addr) (cl : List (Str × Addr)) (fp : List Addr), DE (X.blk s H scope (compEnvC scope cl C X.env) fp) elt fe)
    {W : WX} (tk : Takes X W) {σ : St} {H : Hp} {Γ : Env} {fp rest : List Addr} {Q : VK} (S : SOk H Γ σ fp rest) (hW : Wp X W fp rest H σ RepO (compM vs fi gt ft fe Γ) Q) :
    tLc (wI X tg iter) (fun v σ H Q => ∀ s0 H0 C cl fp, wG (X.blk s0 H0 scope (compEnvC scope cl C X.env) fp) tg v σ H Q) (fun σ H Q => ∀ s0 H0 C cl fp, wTs (X.blk s0 H0 scope (compEnvC scope cl C X.env) fp) ifs σ H Q)
      (fun σ H Q => ∀ s0 H0 C cl fp, wE (X.blk s0 H0 scope (compEnvC scope cl C X.env) fp) elt σ H Q) vs σ H Q := by
  refine hi.thn tk S hW fun ds Γ1 J H1 f1 fp1 S1 R1 G1 hW1 => ?_
  obtain ⟨rfl, R1⟩ := R1
  have hW1 : Wp X W fp1 rest H1 σ RepO (match compL vs gt ft fe ds [] (wipeE Γ1 vs) with | none => none | some (l, Γ') => some (.ok (.lst l), backE Γ1 Γ' vs)) Q := hW1
  have S1 : SOk H1 Γ1 σ fp1 rest := S1
  have R1 : ItOk J ds (fp1 ++ rest) H1 := R1
  cases hcomp : compL vs gt ft fe ds [] (wipeE Γ1 vs) with
  | none => rw [hcomp] at hW1; exact hW1.elim
  | some r =>
    obtain ⟨l, Γe⟩ := r
    rw [hcomp] at hW1
    have hW1 : Wp X W fp1 rest H1 σ RepO (M.pure (.lst l) (backE Γ1 Γe vs)) Q := hW1
    intro D hD
    obtain ⟨fpw, Sw, Gw⟩ := SOk.wipe (vs := vs) S1
    have nD := Sw.fresh hD
    have permD : (D :: (fpw ++ rest)).Perm (fpw ++ ((D :: []) ++ rest)) := List.perm_middle.symm
    have grow := grow_upd (o := .lst []) hD
    have Sw' : SOk (upd H1 D (.lst [])) (wipeE Γ1 vs) (L2.wipe σ vs) fpw ((D :: []) ++ rest) := by
      refine ⟨Sw.env.stay (fun b u e n => ⟨grow b u e, fun q => ?_⟩) (fun b u e _ => grow b u e), permD.nodup_iff.mp (List.nodup_cons.mpr ⟨nD, Sw.nd⟩), fun a ha => ?_⟩
      · rcases List.mem_cons.mp (permD.mem_iff.mpr q) with q | q
        · subst q; rw [hD] at e; cases e
        · exact n q
      · rcases List.mem_cons.mp (permD.mem_iff.mpr ha) with q | q
        · subst q; exact ⟨_, upd_same, trivial⟩
        · obtain ⟨u, e, o⟩ := Sw.trk a q
          exact ⟨u, grow a u e, o⟩
    refine ⟨fun i m H => m = ds.length - i ∧ i ≤ ds.length ∧ ∃ Γi fpi acc xs fa, H D = some (.lst xs) ∧ SOk H Γi (L2.wipe σ vs) fpi ((D :: fa) ++ rest) ∧ RepOs (fpi ++ ((D :: fa) ++ rest)) H acc xs fa ∧ Go fp1 H1 ((D :: fa) ++ fpi) H ∧ (∀ v ∈ vs, ∀ o, Γi[v]? ≠ some (some o)) ∧ compL vs gt ft fe (ds.drop i) acc Γi = some (l, Γe),
      ⟨_, rfl, Nat.zero_le _, wipeE Γ1 vs, fpw, [], [], [], upd_same, Sw', .nil, (Gw.trans (Go.grow grow fpw)).congr (fun _ h => h) (fun b h => ?_), fun v hv o => wipeE_at hv o, hcomp⟩, ?_⟩
    · simp only [List.singleton_append, List.mem_cons] at h
      rcases h with rfl | h
      · exact .inr (.inr hD)
      · exact .inl h
    rintro i m H' ⟨rfl, hi, Γi, fpi, acc, xs, fa, eD, Si, Ri, Gi, hole, hcl⟩
    have sameset : ∀ b, b ∈ fpi ++ ((D :: fa) ++ rest) ↔ b ∈ ((D :: fa) ++ fpi) ++ rest := fun b => (app_swap fpi (D :: fa) rest).mem_iff
    have it := R1 i H' (fpi ++ ((D :: fa) ++ rest)) (fun b u e n => ⟨(Gi.still b u e n).1, fun q => (Gi.still b u e n).2 ((sameset b).mp q)⟩) (fun b hb => Si.fresh hb)
    by_cases hlt : i < ds.length
    · right
      have hd : ds[i]? = some ds[i] := List.getElem?_eq_getElem hlt
      obtain ⟨go, yl⟩ := it.1 _ hd
      have hdrop : ds.drop i = ds[i] :: ds.drop (i + 1) := List.drop_eq_getElem_cons hlt
      rw [hdrop] at hcl
      unfold compL at hcl
      refine ⟨go, fun H5 => ∃ Γ5 fp5 acc5 xs5 fa5, H5 D = some (.lst xs5) ∧ SOk H5 Γ5 (L2.wipe σ vs) fp5 ((D :: fa5) ++ rest) ∧ RepOs (fp5 ++ ((D :: fa5) ++ rest)) H5 acc5 xs5 fa5 ∧ Go fp1 H1 ((D :: fa5) ++ fp5) H5 ∧ (∀ v ∈ vs, ∀ o, Γ5[v]? ≠ some (some o)) ∧ compL vs gt ft fe (ds.drop (i + 1)) acc5 Γ5 = some (l, Γe),
        fun H5 h5 => ⟨_, by omega, rfl, hlt, h5⟩, fun x H2 y => ?_⟩
      obtain ⟨kx, Rx⟩ := yl x H2 y
      have S2 := Si.grow kx
      have R2 : RepOs (fpi ++ ((D :: fa) ++ rest)) H2 acc xs fa := Ri.stay (fun b u e n => ⟨kx b u e, n⟩) fun b u e _ => kx b u e
      cases eg : gt ds[i] Γi with
      | none => rw [eg] at hcl; cases hcl
      | some Γ2 =>
        rw [eg] at hcl
        simp only at hcl
        intro s0 H0 C cl fpx
        refine (hg s0 H0 C cl fpx).run (L2.wipe σ vs) H2 Γi fpi ((D :: fa) ++ rest) ds[i] x Γ2 _ S2 Rx eg fun σ3 H3 fp3 S3 G3 p3 => ?_
        have wσ : L2.wipe σ3 vs = L2.wipe σ vs := (show L2.wipe σ3 vs = L2.wipe (L2.wipe σ vs) vs from p3).trans (wipe_wipe σ vs)
        refine ⟨wσ, fun s0 H0 C cl fpx => ?_⟩
        refine (ht s0 H0 C cl fpx).run (fun _ _ _ _ => False) takes0 σ3 H3 Γ2 fp3 ((D :: fa) ++ rest) _ S3 ?_
        have G23 : Go fpi H' fp3 H3 := (Go.grow kx fpi).trans G3
        match et : ft Γ2, hcl with
        | none, hcl => cases hcl
        | some (.ex ε, Γ3), hcl => cases hcl
        | some (.ok false, Γ3), hcl =>
          intro b H4 fo4 fp4 S4 R4 G4
          obtain ⟨rfl, rfl⟩ := R4
          have G4 : Go fp3 H3 fp4 H4 := G4
          have S4 : SOk H4 Γ3 σ3 fp4 ((D :: fa) ++ rest) := S4
          rw [if_neg Bool.false_ne_true]
          obtain ⟨fp5, S5, G5⟩ := SOk.wipe (vs := vs) S4
          rw [wσ] at S5
          have G25 : Go fpi H' fp5 H4 := (G23.trans G4).trans G5
          have nd := Si.nd
          have kD : ∀ b u, H' b = some u → b ∈ D :: fa → H4 b = some u := fun b u e m => G25.keep b u e fun q => (List.nodup_append.mp nd).2.2 b q b (List.mem_append_left _ m) rfl
          refine ⟨_, fp5, acc, xs, fa, kD D _ eD List.mem_cons_self, S5, Ri.stay G25.still (fun b u e m => kD b u e (List.mem_cons_of_mem _ m)), Gi.trans ((G25.frame (D :: fa)).congr (fun b h => ?_) fun b h => .inl ?_), fun v hv o => wipeE_at hv o, hcl⟩
          · simp only [List.mem_append] at h ⊢; exact h.symm
          · simp only [List.mem_append] at h ⊢; exact h.symm
        | some (.ok true, Γ3), hcl =>
          intro b H4 fo4 fp4 S4 R4 G4
          obtain ⟨rfl, rfl⟩ := R4
          have G4 : Go fp3 H3 fp4 H4 := G4
          have S4 : SOk H4 Γ3 σ3 fp4 ((D :: fa) ++ rest) := S4
          rw [if_pos rfl]
          intro s0 H0 C cl fpx
          refine (he s0 H0 C cl fpx).run (fun _ _ _ _ => False) takes0 σ3 H4 Γ3 fp4 ((D :: fa) ++ rest) _ S4 ?_
          have hcl : (match fe Γ3 with
            | some (.ok o, Γ4) => if acc.length < 16777216 then compL vs gt ft fe (ds.drop (i + 1)) (acc ++ [o]) (wipeE Γ4 vs) else none
            | _ => none) = some (l, Γe) := hcl
          match ee : fe Γ3, hcl with
          | none, hcl => cases hcl
          | some (.ex ε, Γ4), hcl => cases hcl
          | some (.ok o, Γ4), hcl =>
            intro y H5 fo5 fp5 S5 R5 G5
            have hcl : (if acc.length < 16777216 then compL vs gt ft fe (ds.drop (i + 1)) (acc ++ [o]) (wipeE Γ4 vs) else none) = some (l, Γe) := hcl
            split at hcl
            · rename_i hlen
              have G25 : Go fpi H' (fo5 ++ fp5) H5 := (G23.trans G4).trans G5
              have nd := Si.nd
              have kD : ∀ b u, H' b = some u → b ∈ D :: fa → H5 b = some u := fun b u e m => G25.keep b u e fun q => (List.nodup_append.mp nd).2.2 b q b (List.mem_append_left _ m) rfl
              have eD5 := kD D _ eD List.mem_cons_self
              refine ⟨xs, eD5, by rw [← Ri.length]; rw [sizeLine_eq]; exact hlen, ?_⟩
              obtain ⟨fp6, S6, G6⟩ := SOk.wipe (vs := vs) S5
              rw [wσ] at S6
              have mD : D ∈ fo5 ++ ((D :: fa) ++ rest) := by simp
              have S7 := S6.updP (u := .lst (xs ++ [y])) mD trivial
              have perm : (fp6 ++ (fo5 ++ ((D :: fa) ++ rest))).Perm (fp6 ++ ((D :: (fa ++ fo5)) ++ rest)) := by
                refine List.Perm.append_left fp6 ?_
                rw [← List.append_assoc]
                refine List.Perm.append_right rest ?_
                have : (D :: fa) ++ fo5 = D :: (fa ++ fo5) := rfl
                rw [← this]
                exact List.perm_append_comm
              have S8 := S7.perm perm
              have nd6 := S6.nd
              have nfoD : D ∉ fo5 ∧ D ∉ fa ∧ D ∉ fp6 := by
                rw [List.nodup_append] at nd6
                obtain ⟨_, n2, n3⟩ := nd6
                rw [List.nodup_append] at n2
                obtain ⟨_, n4, n5⟩ := n2
                refine ⟨fun q => n5 D q D (by simp) rfl, ?_, fun q => n3 D q D mD rfl⟩
                have : (D :: (fa ++ rest)).Nodup := n4
                exact fun q => (List.nodup_cons.mp this).1 (List.mem_append_left _ q)
              have out : ∀ b u, H5 b = some u → b ≠ D → upd H5 D (.lst (xs ++ [y])) b = some u := fun b u e n => by rw [upd_ne n]; exact e
              -- the old items, then the new one
              have RA : RepOs (fp6 ++ ((D :: (fa ++ fo5)) ++ rest)) (upd H5 D (.lst (xs ++ [y]))) acc xs fa := by
                refine Ri.stay (fun b u e n => ?_) fun b u e m => out b u (kD b u e (List.mem_cons_of_mem _ m)) fun z => nfoD.2.1 (by rw [← z]; exact m)
                have z := G25.still b u e n
                refine ⟨out b u z.1 fun q => n (by rw [q]; simp), fun q => ?_⟩
                have q := perm.mem_iff.mpr q
                simp only [List.mem_append] at q
                rcases q with q | q | q
                · rcases G6.new b q with w | w
                  · exact z.2 (by simp [w])
                  · rw [z.1] at w; cases w
                · exact z.2 (by simp [q])
                · exact n (by simp only [List.mem_append]; exact .inr q)
              have RB : RepO (fp6 ++ ((D :: (fa ++ fo5)) ++ rest)) (upd H5 D (.lst (xs ++ [y]))) o y fo5 := by
                refine R5.stay (fun b u e n => ⟨out b u e fun q => n (by rw [q]; simp), fun q => ?_⟩) fun b u e m => out b u e fun z => nfoD.1 (by rw [← z]; exact m)
                have q := perm.mem_iff.mpr q
                rcases List.mem_append.mp q with q | q
                · rcases G6.new b q with w | w
                  · exact n (List.mem_append_left _ w)
                  · rw [e] at w; cases w
                · exact n (List.mem_append_right _ q)
              have GG : Go fp1 H1 ((D :: (fa ++ fo5)) ++ fp6) (upd H5 D (.lst (xs ++ [y]))) := by
                refine ⟨fun b u e n => ?_, fun b h => ?_⟩
                · by_cases eb : b = D
                  · subst eb; rw [hD] at e; cases e
                  · have z := Gi.keep b u e n
                    rw [upd_ne eb]
                    by_cases mb : b ∈ fpi
                    · rcases Gi.new b (by simp [mb]) with w | w
                      · exact absurd w n
                      · rw [e] at w; cases w
                    · exact G25.keep b u z mb
                · have old : ∀ c, H' c = none → H1 c = none ∨ c ∈ fp1 := fun c hcn => by
                    cases e : H1 c with
                    | none => exact .inl rfl
                    | some u =>
                      by_cases m : c ∈ fp1
                      · exact .inr m
                      · rw [Gi.keep c u e m] at hcn; cases hcn
                  have via : ∀ c, c ∈ fpi ∨ H' c = none → c ∈ fp1 ∨ H1 c = none := fun c hcn => by
                    rcases hcn with w | w
                    · exact Gi.new c (by simp [w])
                    · exact (old c w).symm
                  simp only [List.mem_append, List.mem_cons] at h
                  rcases h with (rfl | h | h) | h
                  · exact .inr hD
                  · exact Gi.new b (by simp [h])
                  · exact via b (G25.new b (by simp [h]))
                  · rcases G6.new b h with w | w
                    · exact via b (G25.new b (by simp [w]))
                    · by_cases m : H' b = none
                      · exact via b (.inr m)
                      · exfalso
                        cases e : H' b with
                        | none => exact m e
                        | some u =>
                          by_cases mb : b ∈ fpi
                          · obtain ⟨u2, e2, _⟩ := S5.trk b (by
                              by_cases q : b ∈ fo5 ++ fp5
                              · rcases List.mem_append.mp q with q | q
                                · simp [q]
                                · simp [q]
                              · exfalso
                                obtain ⟨u3, e3, _⟩ := S6.trk b (List.mem_append_left _ h)
                                rw [w] at e3; cases e3)
                            rw [w] at e2; cases e2
                          · rw [G25.keep b u e mb] at w; cases w
              exact ⟨_, fp6, acc ++ [o], xs ++ [y], fa ++ fo5, upd_same, S8, RA.append (by
                have z := RepOs.cons RB .nil
                rw [List.append_nil] at z
                exact z), GG, fun v hv o => wipeE_at hv o, hcl⟩
            · cases hcl
    · left
      have e : i = ds.length := by omega
      subst e
      rw [List.drop_length] at hcl
      unfold compL at hcl
      cases hcl
      refine ⟨it.2 (Nat.le_refl _), ?_⟩
      have Sσ : SOk H' Γe σ fpi ((D :: fa) ++ rest) := ⟨RepEnv.holes (σ' := σ) Si.env hole, Si.nd, Si.trk⟩
      have base : ∀ (v : Nat) (d : PyData), Γ1[v]? = some (some (O.sh d)) → ∃ x, σ[v]? = some (some x) ∧ RepD (fpi ++ ((D :: fa) ++ rest)) H' d x := fun v d hv => by
        obtain ⟨x, hx, Rx⟩ := S1.env.at hv
        exact ⟨x, hx, (Gi.repD Rx).congr fun b h => (sameset b).mp h⟩
      obtain ⟨fp', Sb, Gb, sb⟩ := SOk.back (Γ0 := Γ1) (vs := vs) Sσ base
      refine hW1.done (fo := D :: fa) (fp' := fp') Sb (.lst eD (Ri.stay (fun b u e n => ⟨e, fun q => n ?_⟩) fun _ _ e _ => e)) (Gi.trans ⟨fun _ _ e _ => e, fun b h => .inl ?_⟩)
      · rcases List.mem_append.mp q with q | q
        · exact List.mem_append_left _ (sb b q)
        · exact List.mem_append_right _ q
      · rcases List.mem_append.mp h with h | h
        · exact List.mem_append_left _ h
        · exact List.mem_append_right _ (sb b h)
theorem de_comp (hc : X.calm = true) (hN : X.N.Nodup) (hi : DI X tg iter fi) (ok : BlkOk X.N X.env.scope scope own)
    (hg : ∀ (s : Shared) (H : Hp) (C : Addr) (cl : List (Str × Addr)) (fp : List Addr), DG (X.blk s H scope (compEnvC scope cl C X.env) fp) (wipeR (own.map (·.2))) tg gt)
    (ht : ∀ (s : Shared) (H : Hp) (C : Addr) (cl : List (Str × Addr)) (fp : List Addr), DTs (X.blk s H scope (compEnvC scope cl C X.env) fp) ifs ft)
    (he : ∀ (s : Shared) (H : Hp) (C : Addr) (cl : List (Str × Addr)) (fp : List Addr), DE (X.blk s H scope (compEnvC scope cl C X.env) fp) elt fe)
    (hs : ∀ x, foldedSetIterable iter X.env x = pure x := by intro _; rfl) : DE X (.ListComp elt [⟨tg, iter, ifs, 0⟩] scope pos) (compM (own.map (·.2)) fi gt ft fe) := by
  refine ⟨fun W tk σ H Γ fp rest Q S hW => we (pe_lc (own := own) hc hN pi_w ok (g := fun v σ H Q => ∀ s0 H0 C cl fp, wG (X.blk s0 H0 scope (compEnvC scope cl C X.env) fp) tg v σ H Q) (tt := fun σ H Q => ∀ s0 H0 C cl fp, wTs (X.blk s0 H0 scope (compEnvC scope cl C X.env) fp) ifs σ H Q)
    (te := fun σ H Q => ∀ s0 H0 C cl fp, wE (X.blk s0 H0 scope (compEnvC scope cl C X.env) fp) elt σ H Q) (fun s H C cl fp => ⟨fun pins s' σ H' v u Q I r h => h s H C cl fp pins s' u I r⟩) (fun s H C cl fp => ⟨fun pins s' σ H' Q I h => h s H C cl fp pins s' I⟩) (fun s H C cl fp => ⟨fun pins s' σ H' Q I h => h s H C cl fp pins s' I⟩) hs) (comp_core hc hN hi hg ht he tk S hW)⟩
theorem ds_setLc (i : Nat) {pin : List Nat} {y : Str} {py spos : Pos} (hc : X.calm = true) (hN : X.N.Nodup) (hi : DI X tg iter fi) (ok : BlkOk X.N X.env.scope scope own)
    (hg : ∀ (s : Shared) (H : Hp) (C : Addr) (cl : List (Str × Addr)) (fp : List Addr), DG (X.blk s H scope (compEnvC scope cl C X.env) fp) (wipeR (own.map (·.2))) tg gt)
    (ht : ∀ (s : Shared) (H : Hp) (C : Addr) (cl : List (Str × Addr)) (fp : List Addr), DTs (X.blk s H scope (compEnvC scope cl C X.env) fp) ifs ft)
    (he : ∀ (s : Shared) (H : Hp) (C : Addr) (cl : List (Str × Addr)) (fp : List Addr), DE (X.blk s H scope (compEnvC scope cl C X.env) fp) elt fe)
    (hy : X.N[i]? = some y := by rfl) (hyl : X.env.scope.names.lookup y = some .local := by rfl) (hp : pin.contains i = false := by rfl)
    (hsw : swapsWith (.ListComp elt [⟨tg, iter, ifs, 0⟩] scope pos) (some (.Name y py)) spos.line X.env = pure true := by rfl)
    (hs : ∀ x, foldedSetIterable iter X.env x = pure x := by intro _; rfl) : DSt X pin (.Assign [.Name y py] (.ListComp elt [⟨tg, iter, ifs, 0⟩] scope pos) spos) (Sf.of (compM (own.map (·.2)) fi gt ft fe) (Sf.putO i)) := by
  refine ⟨fun W tk po σ H Γ fp rest D S hW => ws (ps_setLc (own := own) hc hN hy hyl hsw pi_w ok (g := fun v σ H Q => ∀ s0 H0 C cl fp, wG (X.blk s0 H0 scope (compEnvC scope cl C X.env) fp) tg v σ H Q) (tt := fun σ H Q => ∀ s0 H0 C cl fp, wTs (X.blk s0 H0 scope (compEnvC scope cl C X.env) fp) ifs σ H Q)
    (te := fun σ H Q => ∀ s0 H0 C cl fp, wE (X.blk s0 H0 scope (compEnvC scope cl C X.env) fp) elt σ H Q) (fun s H C cl fp => ⟨fun pins s' σ H' v u Q I r h => h s H C cl fp pins s' u I r⟩) (fun s H C cl fp => ⟨fun pins s' σ H' Q I h => h s H C cl fp pins s' I⟩) (fun s H C cl fp => ⟨fun pins s' σ H' Q I h => h s H C cl fp pins s' I⟩) hs) ?_⟩
  have hj : Jd X (fun σ H Q => tLc (wI X tg iter) (fun v σ H Q => ∀ s0 H0 C cl fp, wG (X.blk s0 H0 scope (compEnvC scope cl C X.env) fp) tg v σ H Q) (fun σ H Q => ∀ s0 H0 C cl fp, wTs (X.blk s0 H0 scope (compEnvC scope cl C X.env) fp) ifs σ H Q)
      (fun σ H Q => ∀ s0 H0 C cl fp, wE (X.blk s0 H0 scope (compEnvC scope cl C X.env) fp) elt σ H Q) (own.map (·.2)) σ H Q) RepO (compM (own.map (·.2)) fi gt ft fe) := ⟨fun W tk σ H Γ fp rest Q S hW => comp_core hc hN hi hg ht he tk S hW⟩
  refine hj.thnS tk S hW fun d Γ1 x H1 f1 fp1 S1 R1 G1 hW1 => ?_
  unfold Sf.putO at hW1
  split at hW1
  · rename_i hl
    obtain ⟨fp', S', G⟩ := SOk.put S1 R1 hl
    exact hW1 _ _ fp' S' G (pin_set hp)
  · exact hW1.elim
end
end DS
namespace DS
open PySem PySem.Spec PyProof.Rows L2
/-! ### read without holding: all is read as shared, what comes holds nothing -/
def scal : D → Bool
  | .list _ => false
  | .tuple _ => false
  | .dict _ => false
  | _ => true
def er (Γ : Env) : Env := Γ.map (Option.map fun o => .sh o.erase)
theorem repEnv_er {A : List Addr} {H : Hp} : ∀ {Γ : Env} {σ : St} {fp : List Addr}, RepEnv A H Γ σ fp → RepEnv [] H (er Γ) σ []
  | _, _, _, .nil => .nil
  | _, _, _, .no r => .no (repEnv_er r)
  | _, _, _, .yes r s => .yes (fo := []) (.sh (r.froze fun b h => by cases h)) (repEnv_er s)
theorem SOk.er {H : Hp} {Γ : Env} {σ : St} {fp rest : List Addr} (S : SOk H Γ σ fp rest) : SOk H (er Γ) σ [] [] := ⟨repEnv_er S.env, List.nodup_nil, fun a h => by cases h⟩
theorem scal_rep {A B : List Addr} {H : Hp} {d : D} {v : V} (h : scal d = true) (r : RepD A H d v) : RepD B H d v := by
  cases r <;> first | cases h | skip
  · exact .non
  · exact .bl _
  · exact .int _
  · exact .str _
theorem scals_rep {A B : List Addr} {H : Hp} : ∀ {ds : List D} {vs : List V}, ds.all scal = true → RepDs A H ds vs → RepDs B H ds vs
  | _, _, _, .nil => .nil
  | _, _, h, .cons r s => by
    rw [List.all_cons, Bool.and_eq_true] at h
    exact .cons (scal_rep h.1 r) (scals_rep h.2 s)
def exScal (ε : Xn) : Bool := match ε.flds with
  | none => true
  | some fs => (fs.map (·.2)).all scal
def M.pureS (f : M D) : M D := fun Γ => match f (er Γ) with
  | some (.ok d, _) => if scal d = true then some (.ok d, Γ) else none
  | some (.ex ε, _) => if exScal ε = true then some (.ex ε, Γ) else none
  | none => none
def M.pureT (f : M Bool) : M Bool := fun Γ => match f (er Γ) with
  | some (.ok d, _) => some (.ok d, Γ)
  | some (.ex ε, _) => if exScal ε = true then some (.ex ε, Γ) else none
  | none => none
theorem xrep_pure {X : Cx} {H H' : Hp} {Γ : Env} {σ : St} {fp rest fp' : List Addr} {ε : Xn} {cls : Value} {d : Option Addr} (S : SOk H Γ σ fp rest) (kp : ∀ b u, H b = some u → H' b = some u) (hs : exScal ε = true) (R : XRep X (fp' ++ []) H' ε cls d) : XRep X (fp ++ rest) H' ε cls d := by
  obtain ⟨hc, hf⟩ := R
  refine ⟨hc, ?_⟩
  unfold exScal at hs
  cases hfl : ε.flds with
  | none => rw [hfl] at hf; exact hf
  | some fs =>
    rw [hfl] at hf hs
    obtain ⟨dd, vs, e1, e2, e3, e4⟩ := hf
    refine ⟨dd, vs, e1, fun q => ?_, e3, scals_rep hs e4⟩
    obtain ⟨u, e5, o⟩ := S.trk dd q
    rw [kp _ _ e5] at e3
    cases e3
    exact o
section
variable {X : Cx} {e : Expr} {f : M D} {g : M Bool}
theorem dx_pure (h : DX X e f) : DX X e (M.pureS f) := by
  refine ⟨fun W tk σ H Γ fp rest Q S hW => h.run W tk σ H (er Γ) [] [] Q S.er ?_⟩
  unfold M.pureS at hW
  match e : f (er Γ), hW with
  | none, hW => exact hW.elim
  | some (.ok d, Γ'), hW =>
    intro v H' fo fp' S' R G
    obtain ⟨rfl, R⟩ := R
    have kp : ∀ b u, H b = some u → H' b = some u := fun b u e => G.keep b u e (by simp)
    simp only at hW
    split at hW
    · rename_i z
      exact Wp.done (a := d) (fo := []) hW (S.grow kp) ⟨rfl, scal_rep z R⟩ (Go.grow kp fp)
    · exact hW.elim
  | some (.ex ε, Γ'), hW =>
    intro cls d H' fp' S' R G
    have kp : ∀ b u, H b = some u → H' b = some u := fun b u e => G.keep b u e (by simp)
    simp only at hW
    split at hW
    · rename_i z
      exact hW cls d H' fp (S.grow kp) (xrep_pure S kp z R) (Go.grow kp fp)
    · exact hW.elim
theorem pure_b {w : St → Hp → (Bool → Hp → Prop) → Prop} (h : Jd X w repB g) : Jd X w repB (M.pureT g) := by
  refine ⟨fun W tk σ H Γ fp rest Q S hW => h.run W tk σ H (er Γ) [] [] Q S.er ?_⟩
  unfold M.pureT at hW
  match e : g (er Γ), hW with
  | none, hW => exact hW.elim
  | some (.ok d, Γ'), hW =>
    intro v H' fo fp' S' R G
    obtain ⟨rfl, rfl⟩ := R
    have kp : ∀ b u, H b = some u → H' b = some u := fun b u e => G.keep b u e (by simp)
    exact Wp.done (a := d) (fo := []) hW (S.grow kp) ⟨rfl, rfl⟩ (Go.grow kp fp)
  | some (.ex ε, Γ'), hW =>
    intro cls d H' fp' S' R G
    have kp : ∀ b u, H b = some u → H' b = some u := fun b u e => G.keep b u e (by simp)
    simp only at hW
    split at hW
    · rename_i z
      exact hW cls d H' fp (S.grow kp) (xrep_pure S kp z R) (Go.grow kp fp)
    · exact hW.elim
theorem dt_pure (h : DT X e g) : DT X e (M.pureT g) := pure_b h
theorem dw_pure (h : DW X e g) : DW X e (M.pureT g) := pure_b h
theorem dts_pure {es : List Expr} (h : DTs X es g) : DTs X es (M.pureT g) := pure_b h
end
/-! ### new things -/
def newQ (A : List Addr) (H : Hp) (o : O) (Q : VK) : Prop := ∀ v H' fo, RepO (fo ++ A) H' o v fo → (fo ++ A).Nodup → Trk H' (fo ++ A) → Go [] H fo H' → Q v H'
theorem fin_newO {A : List Addr} {H : Hp} {Q : VK} {ds : List D} {xs : List V} (rs : RepDs A H ds xs) (nd : A.Nodup) (tr : Trk H A) (q : newQ A H (.lst (ds.map .sh)) Q) : ∀ p, H p = none → Q (.ref p) (upd H p (.lst xs)) := fun p hp => by
  have np : p ∉ A := fun m => by
    obtain ⟨u, e, _⟩ := tr p m
    rw [hp] at e; cases e
  have g := grow_upd (o := .lst xs) hp
  refine q _ _ [p] (.lst upd_same (RepDs.toO (rs.stay fun b u e n => ⟨g b u e, fun m => ?_⟩))) (List.nodup_cons.mpr ⟨np, nd⟩) (fun a h => ?_) ⟨fun b u e _ => g b u e, fun b h => ?_⟩
  · rcases List.mem_cons.mp m with m | m
    · subst m; rw [hp] at e; cases e
    · exact n m
  · rcases List.mem_cons.mp h with h | h
    · subst h; exact ⟨_, upd_same, trivial⟩
    · obtain ⟨u, e, o⟩ := tr a h
      exact ⟨u, g a u e, o⟩
  · have : b = p := by simpa using h
    subst this; exact .inr hp
theorem newQ_sh {A : List Addr} {H : Hp} {Q : VK} {d : D} {v : V} {H' : Hp} (nd : A.Nodup) (tr : Trk H A) (q : newQ A H (.sh d) Q) (k : ∀ b u, H b = some u → H' b = some u) (r : RepD A H' d v) : Q v H' :=
  q v H' [] (.sh r) nd (fun a h => by obtain ⟨u, e, o⟩ := tr a h; exact ⟨u, k a u e, o⟩) ⟨fun b u e _ => k b u e, fun b h => by cases h⟩
theorem newQ_of {W : WX} {X : Cx} {fp rest : List Addr} {H : Hp} {σ : St} {Γ : Env} {Q : VK} {o : O} (S : SOk H Γ σ fp rest) (h : Wp X W fp rest H σ RepO (M.pure o Γ) Q) : newQ (fp ++ rest) H o Q := by
  intro v H' fo R' nd' tr' G'
  have p : (fo ++ (fp ++ rest)).Perm (fp ++ (fo ++ rest)) := by
    rw [← List.append_assoc, ← List.append_assoc]
    exact List.Perm.append_right rest List.perm_append_comm
  have kp : ∀ b u, H b = some u → H' b = some u := fun b u e => G'.keep b u e (by simp)
  refine h v H' fo fp ⟨S.env.stay (fun b u e n => ⟨kp b u e, fun q => ?_⟩) (fun b u e _ => kp b u e), p.nodup_iff.mp nd', fun a h => tr' a (p.mem_iff.mpr h)⟩ (R'.congr fun b h => p.mem_iff.mpr h) ⟨fun b u e _ => kp b u e, fun b h => ?_⟩
  · rcases List.mem_append.mp (p.mem_iff.mpr q) with q | q
    · rcases G'.new b q with z | z
      · cases z
      · rw [e] at z; cases z
    · exact n q
  · rcases List.mem_append.mp h with h | h
    · rcases G'.new b h with z | z
      · cases z
      · exact .inr z
    · exact .inl h
def rCO (g : List D → Option O) : List V → Hp → VK → Prop := fun xs H Q => ∃ A ds o, RepDs A H ds xs ∧ A.Nodup ∧ Trk H A ∧ g ds = some o ∧ newQ A H o Q
def CO (X : Cx) (f : Value) (g : List D → Option O) : Prop := CallR X f (rCO g)
section
variable {X : Cx} {e a b : Expr} {es : List Expr} {fs : M (List D)} {fx gx : M D} {x : Str} {p pos : Pos} {g : List D → Option O}
theorem de_callB {id : String} (hc : CO X (.builtin id) g) (hm : X.mg x = none) (hv : bootBuiltins x = some (.builtin id)) (ha : DA X (e :: es) fs) (hg : Gl X x := by rfl) (hn : x ≠ "__name__" := by decide) (hdb : (x == ("__debug__" : Str)) = false := by decide)
    (he : starEach (e :: es) X.env = (false, eval e X.env) :: starEach es X.env := by rfl) (hpl : (backTo pos (starEach es X.env)).any (·.1) = false := by rfl) : DE X (.Call (.Name x p) (e :: es) [] pos) (M.bind fs fun l => M.lift (g l)) := by
  refine ⟨fun W tk σ H Γ fp rest Q S hW => we (pe_callB hc hg hm hv pa_w hn hdb he hpl) ?_⟩
  refine ha.thn tk S hW fun l Γ1 vs H1 fo fp1 S1 R1 G1 hW1 => ?_
  obtain ⟨rfl, R1⟩ := R1
  obtain ⟨o, e, hW1⟩ := hW1.lift1
  exact ⟨fp1 ++ rest, l, o, R1, S1.nd, S1.trk, e, newQ_of S1 hW1⟩
theorem de_callTy {T : String} (hc : CO X (.type T) g) (hm : X.mg x = none) (hv : bootBuiltins x = some (.type T)) (ha : DA X (e :: es) fs) (hg : Gl X x := by rfl) (hn : x ≠ "__name__" := by decide) (hdb : (x == ("__debug__" : Str)) = false := by decide)
    (he : starEach (e :: es) X.env = (false, eval e X.env) :: starEach es X.env := by rfl) (hpl : (backTo pos (starEach es X.env)).any (·.1) = false := by rfl) : DE X (.Call (.Name x p) (e :: es) [] pos) (M.bind fs fun l => M.lift (g l)) := by
  refine ⟨fun W tk σ H Γ fp rest Q S hW => we (pe_callTy hc hg hm hv pa_w hn hdb he hpl) ?_⟩
  refine ha.thn tk S hW fun l Γ1 vs H1 fo fp1 S1 R1 G1 hW1 => ?_
  obtain ⟨rfl, R1⟩ := R1
  obtain ⟨o, e, hW1⟩ := hW1.lift1
  exact ⟨fp1 ++ rest, l, o, R1, S1.nd, S1.trk, e, newQ_of S1 hW1⟩
end
/-! ### slices -/
section
variable {X : Cx} {e : Expr} {lo hi : Option Expr} {fx : M D} {fl fh : M (Option Int)} {p2 pos : Pos}
def wO (X : Cx) (e : Option Expr) : TO := fun σ H Q => ∀ pins s, Inv X pins σ H s → wpAny (model X.prog X.w) X.A (evalPart e X.env) (fun u s' => ∃ o H', Inv X pins σ H' s' ∧ IsPart u o ∧ Q o H') X.xe s
theorem po_w {e : Option Expr} : PO X e (wO X e) := ⟨fun pins s σ H Q I h => h pins s I⟩
abbrev DOp (X : Cx) (e : Option Expr) (f : M (Option Int)) : Prop := Jd X (wO X e) repOp f
def asPart : D → Option (Option Int)
  | .int i => some (some i)
  | _ => none
theorem dop_none : DOp X none (M.pure none) := ⟨fun W tk σ H Γ fp rest Q S hW pins s I => po_none.run pins s σ H Q I (Wp.done (a := none) (fo := []) hW S ⟨rfl, rfl⟩ (Go.refl _ _))⟩
theorem dop_some (h : DX X e fx) : DOp X (some e) (M.bind fx fun d => M.lift (asPart d)) := by
  refine ⟨fun W tk σ H Γ fp rest Q S hW pins s I => (po_some pe_w).run pins s σ H Q I ?_⟩
  refine h.thn tk S hW fun d Γ1 x H1 fo fp1 S1 R1 G1 hW1 => ?_
  obtain ⟨rfl, R1⟩ := R1
  obtain ⟨i, e, hW1⟩ := hW1.lift1
  cases d <;> cases e
  cases R1
  exact ⟨_, rfl, hW1.done (fo := []) S1 ⟨rfl, rfl⟩ (Go.refl _ _)⟩
def cutD {α : Type} (xs : List α) (lo hi : Option Int) : List α := (xs.drop (HT.sIx xs.length 0 lo)).take (HT.sIx xs.length xs.length hi - HT.sIx xs.length 0 lo)
noncomputable def oSl : D → Option Int → Option Int → Option O
  | .list xs, lo, hi => some (.lst ((cutD xs lo hi).map .sh))
  | .str z, lo, hi => @ite _ (z.length ≤ 16777216) (Classical.propDecidable _) (some (.sh (.str (cutS z lo hi)))) none
  | .tuple xs, lo, hi => if HT.sIx xs.length 0 lo = 0 ∧ HT.sIx xs.length xs.length hi = xs.length then none else some (.sh (.tuple (cutD xs lo hi)))
  | _, _, _ => none
theorem RepDs.cut {A : List Addr} {H : Hp} {ds : List D} {vs : List V} (h : RepDs A H ds vs) (lo hi : Option Int) : RepDs A H (cutD ds lo hi) (cutV vs lo hi) := by
  unfold cutD cutV
  rw [h.length]
  exact (h.drop _).take _
theorem de_slice (h : DX X e fx) (hl : DOp X lo fl) (hh : DOp X hi fh) : DE X (.Subscript e (.Slice lo hi none p2) pos) (M.bind fx fun x => M.bind fl fun l => M.bind fh fun u => M.lift (oSl x l u)) := by
  refine ⟨fun W tk σ H Γ fp rest Q S hW => we (pe_slice ((sl_list (X := X)).or (sl_str.or sl_tup)) pe_w po_w po_w) ?_⟩
  refine h.thn tk S hW fun d Γ1 x H1 fo fp1 S1 R1 G1 hW1 => ?_
  obtain ⟨rfl, R1⟩ := R1
  refine hl.thn tk S1 hW1 fun l Γ2 l' H2 fo fp2 S2 R2 G2 hW2 => ?_
  obtain ⟨rfl, rfl⟩ := R2
  refine hh.thn tk S2 hW2 fun u Γ3 u' H3 fo fp3 S3 R3 G3 hW3 => ?_
  obtain ⟨rfl, rfl⟩ := R3
  obtain ⟨o, e, hW3⟩ := hW3.lift1
  have q := newQ_of S3 hW3
  have R := G3.repD (fp' := fp3) (rest := rest) (G2.repD (fp' := fp2) (rest := rest) R1)
  unfold oSl at e
  split at e
  · cases e
    cases R with
    | lst n h s => exact .inl ⟨_, _, rfl, .inl h, fin_newO (s.cut _ _) S3.nd S3.trk q⟩
  · split at e <;> cases e
    rename_i z
    cases R
    exact .inr (.inl ⟨_, rfl, sizeLine_le.mp z, newQ_sh S3.nd S3.trk q (fun _ _ h => h) (.str _)⟩)
  · split at e <;> cases e
    rename_i z
    cases R with
    | tup n h s => exact .inr (.inr ⟨_, _, rfl, .inl (.inl h), by rw [← s.length]; exact z, fun p hp => newQ_sh S3.nd S3.trk q (grow_upd hp) (.tup (S3.fresh hp) upd_same ((s.cut _ _).stay fun b u e n => ⟨grow_upd hp b u e, n⟩))⟩)
  · cases e
end
/-! ### isinstance -/
section
variable {X : Cx} {e : Expr} {fx : M D} {p p2 pos : Pos}
theorem DictU.isD {H : Hp} {a : Addr} {u : HO} {ks : List D} {vs : List V} (h : DictU u ks vs) (e : H a = some u) : IsD H a := by
  cases h with
  | k kv => exact .inl ⟨_, .inl e⟩
  | t kv => exact .inr ⟨_, .inl e⟩
def rIsa (T : String) (k : D → Bool) : List V → Hp → VK → Prop := fun xs H Q => ∃ A d v, xs = [v, .ty T] ∧ RepD A H d v ∧ Q (.bl (k d)) H
theorem ci_int : CallR X (.builtin "isinstance") (rIsa "int" PyData.isInt) := by
  intro pins s σ H vs us Q I r h
  obtain ⟨A, d, v, rfl, R, q⟩ := h
  obtain ⟨u1, u2, rfl, r1, r2⟩ := vals2 r
  cases (show u2 = Value.type "int" from r2)
  have fin : ∀ tk, EP X pins σ Q (.bool (d.isInt)) { s with toks := tk } := fun tk => ⟨.bl _, H, I.tok tk, rfl, q⟩
  cases R with
  | non => cases r1; exact PySem.W.isinstance_int_data .none fun tk _ => fin tk
  | bl b => cases r1; exact PySem.W.isinstance_int_data (.bool b) fun tk _ => fin tk
  | int i => obtain ⟨t, rfl⟩ := r1; exact PySem.W.isinstance_int_data (.int i t) fun tk _ => fin tk
  | str z => obtain ⟨t, rfl⟩ := r1; exact PySem.W.isinstance_int_data (.str z t) fun tk _ => fin tk
  | lst n h1 s1 => cases r1; obtain ⟨its, rv, pl, hz⟩ := I.list (.inl h1); obtain ⟨o, ho, hc⟩ := pl.isList.typeIs; exact IsiPair.list_int ho hc (fin _)
  | tup n h1 s1 => cases r1; obtain ⟨its, rv, pl, hz⟩ := I.tuple (.inl (.inl h1)); obtain ⟨o, ho, hc⟩ := pl.typeIs; exact IsiPair.tuple_int ho hc (fin _)
  | dic n h1 u1 s1 =>
    cases r1
    obtain ⟨o, ho, hc⟩ := (isD_at I (u1.isD h1)).1
    exact IsiPair.dict_int ho hc (fin _)
theorem ci_bool : CallR X (.builtin "isinstance") (rIsa "bool" PyData.isBool) := by
  intro pins s σ H vs us Q I r h
  obtain ⟨A, d, v, rfl, R, q⟩ := h
  obtain ⟨u1, u2, rfl, r1, r2⟩ := vals2 r
  cases (show u2 = Value.type "bool" from r2)
  have fin : ∀ tk, EP X pins σ Q (.bool (d.isBool)) { s with toks := tk } := fun tk => ⟨.bl _, H, I.tok tk, rfl, q⟩
  cases R with
  | non => cases r1; exact PySem.W.isinstance_bool_data .none fun tk _ => fin tk
  | bl b => cases r1; exact PySem.W.isinstance_bool_data (.bool b) fun tk _ => fin tk
  | int i => obtain ⟨t, rfl⟩ := r1; exact PySem.W.isinstance_bool_data (.int i t) fun tk _ => fin tk
  | str z => obtain ⟨t, rfl⟩ := r1; exact PySem.W.isinstance_bool_data (.str z t) fun tk _ => fin tk
  | lst n h1 s1 => cases r1; obtain ⟨its, rv, pl, hz⟩ := I.list (.inl h1); obtain ⟨o, ho, hc⟩ := pl.isList.typeIs; exact IsiPair.list_bool ho hc (fin _)
  | tup n h1 s1 => cases r1; obtain ⟨its, rv, pl, hz⟩ := I.tuple (.inl (.inl h1)); obtain ⟨o, ho, hc⟩ := pl.typeIs; exact IsiPair.tuple_bool ho hc (fin _)
  | dic n h1 u1 s1 =>
    cases r1
    obtain ⟨o, ho, hc⟩ := (isD_at I (u1.isD h1)).1
    exact IsiPair.dict_bool ho hc (fin _)
theorem ci_str : CallR X (.builtin "isinstance") (rIsa "str" PyData.isStr) := by
  intro pins s σ H vs us Q I r h
  obtain ⟨A, d, v, rfl, R, q⟩ := h
  obtain ⟨u1, u2, rfl, r1, r2⟩ := vals2 r
  cases (show u2 = Value.type "str" from r2)
  have fin : ∀ tk, EP X pins σ Q (.bool (d.isStr)) { s with toks := tk } := fun tk => ⟨.bl _, H, I.tok tk, rfl, q⟩
  cases R with
  | non => cases r1; exact PySem.W.isinstance_str_data .none fun tk _ => fin tk
  | bl b => cases r1; exact PySem.W.isinstance_str_data (.bool b) fun tk _ => fin tk
  | int i => obtain ⟨t, rfl⟩ := r1; exact PySem.W.isinstance_str_data (.int i t) fun tk _ => fin tk
  | str z => obtain ⟨t, rfl⟩ := r1; exact PySem.W.isinstance_str_data (.str z t) fun tk _ => fin tk
  | lst n h1 s1 => cases r1; obtain ⟨its, rv, pl, hz⟩ := I.list (.inl h1); obtain ⟨o, ho, hc⟩ := pl.isList.typeIs; exact IsiPair.list_str ho hc (fin _)
  | tup n h1 s1 => cases r1; obtain ⟨its, rv, pl, hz⟩ := I.tuple (.inl (.inl h1)); obtain ⟨o, ho, hc⟩ := pl.typeIs; exact IsiPair.tuple_str ho hc (fin _)
  | dic n h1 u1 s1 =>
    cases r1
    obtain ⟨o, ho, hc⟩ := (isD_at I (u1.isD h1)).1
    exact IsiPair.dict_str ho hc (fin _)
theorem ci_list : CallR X (.builtin "isinstance") (rIsa "list" PyData.isList) := by
  intro pins s σ H vs us Q I r h
  obtain ⟨A, d, v, rfl, R, q⟩ := h
  obtain ⟨u1, u2, rfl, r1, r2⟩ := vals2 r
  cases (show u2 = Value.type "list" from r2)
  have fin : ∀ tk, EP X pins σ Q (.bool (d.isList)) { s with toks := tk } := fun tk => ⟨.bl _, H, I.tok tk, rfl, q⟩
  cases R with
  | non => cases r1; exact PySem.W.isinstance_list_data .none fun tk _ => fin tk
  | bl b => cases r1; exact PySem.W.isinstance_list_data (.bool b) fun tk _ => fin tk
  | int i => obtain ⟨t, rfl⟩ := r1; exact PySem.W.isinstance_list_data (.int i t) fun tk _ => fin tk
  | str z => obtain ⟨t, rfl⟩ := r1; exact PySem.W.isinstance_list_data (.str z t) fun tk _ => fin tk
  | lst n h1 s1 => cases r1; obtain ⟨its, rv, pl, hz⟩ := I.list (.inl h1); obtain ⟨o, ho, hc⟩ := pl.isList.typeIs; exact IsiPair.list_list ho hc (fin _)
  | tup n h1 s1 => cases r1; obtain ⟨its, rv, pl, hz⟩ := I.tuple (.inl (.inl h1)); obtain ⟨o, ho, hc⟩ := pl.typeIs; exact IsiPair.tuple_list ho hc (fin _)
  | dic n h1 u1 s1 =>
    cases r1
    obtain ⟨o, ho, hc⟩ := (isD_at I (u1.isD h1)).1
    exact IsiPair.dict_list ho hc (fin _)
theorem ci_tuple : CallR X (.builtin "isinstance") (rIsa "tuple" PyData.isTuple) := by
  intro pins s σ H vs us Q I r h
  obtain ⟨A, d, v, rfl, R, q⟩ := h
  obtain ⟨u1, u2, rfl, r1, r2⟩ := vals2 r
  cases (show u2 = Value.type "tuple" from r2)
  have fin : ∀ tk, EP X pins σ Q (.bool (d.isTuple)) { s with toks := tk } := fun tk => ⟨.bl _, H, I.tok tk, rfl, q⟩
  cases R with
  | non => cases r1; exact PySem.W.isinstance_tuple_data .none fun tk _ => fin tk
  | bl b => cases r1; exact PySem.W.isinstance_tuple_data (.bool b) fun tk _ => fin tk
  | int i => obtain ⟨t, rfl⟩ := r1; exact PySem.W.isinstance_tuple_data (.int i t) fun tk _ => fin tk
  | str z => obtain ⟨t, rfl⟩ := r1; exact PySem.W.isinstance_tuple_data (.str z t) fun tk _ => fin tk
  | lst n h1 s1 => cases r1; obtain ⟨its, rv, pl, hz⟩ := I.list (.inl h1); obtain ⟨o, ho, hc⟩ := pl.isList.typeIs; exact IsiPair.list_tuple ho hc (fin _)
  | tup n h1 s1 => cases r1; obtain ⟨its, rv, pl, hz⟩ := I.tuple (.inl (.inl h1)); obtain ⟨o, ho, hc⟩ := pl.typeIs; exact IsiPair.tuple_tuple ho hc (fin _)
  | dic n h1 u1 s1 =>
    cases r1
    obtain ⟨o, ho, hc⟩ := (isD_at I (u1.isD h1)).1
    exact IsiPair.dict_tuple ho hc (fin _)
theorem ci_dict : CallR X (.builtin "isinstance") (rIsa "dict" PyData.isDict) := by
  intro pins s σ H vs us Q I r h
  obtain ⟨A, d, v, rfl, R, q⟩ := h
  obtain ⟨u1, u2, rfl, r1, r2⟩ := vals2 r
  cases (show u2 = Value.type "dict" from r2)
  have fin : ∀ tk, EP X pins σ Q (.bool (d.isDict)) { s with toks := tk } := fun tk => ⟨.bl _, H, I.tok tk, rfl, q⟩
  cases R with
  | non => cases r1; exact PySem.W.isinstance_dict_data .none fun tk _ => fin tk
  | bl b => cases r1; exact PySem.W.isinstance_dict_data (.bool b) fun tk _ => fin tk
  | int i => obtain ⟨t, rfl⟩ := r1; exact PySem.W.isinstance_dict_data (.int i t) fun tk _ => fin tk
  | str z => obtain ⟨t, rfl⟩ := r1; exact PySem.W.isinstance_dict_data (.str z t) fun tk _ => fin tk
  | lst n h1 s1 => cases r1; obtain ⟨its, rv, pl, hz⟩ := I.list (.inl h1); obtain ⟨o, ho, hc⟩ := pl.isList.typeIs; exact IsiPair.list_dict ho hc (fin _)
  | tup n h1 s1 => cases r1; obtain ⟨its, rv, pl, hz⟩ := I.tuple (.inl (.inl h1)); obtain ⟨o, ho, hc⟩ := pl.typeIs; exact IsiPair.tuple_dict ho hc (fin _)
  | dic n h1 u1 s1 =>
    cases r1
    obtain ⟨o, ho, hc⟩ := (isD_at I (u1.isD h1)).1
    exact IsiPair.dict_dict ho hc (fin _)
theorem dx_isa {T : String} {k : D → Bool} {x : Str} (hc : CallR X (.builtin "isinstance") (rIsa T k)) (h : DX X e fx) (hm : X.mg "isinstance" = none) (hx : X.mg x = none) (hg : Gl X "isinstance" := by rfl) (hgx : Gl X x := by rfl) (hv : bootBuiltins x = some (.type T) := by rfl)
    (hn : x ≠ "__name__" := by decide) (hd : (x == ("__debug__" : Str)) = false := by decide)
    (hs1 : starEach [e, .Name x p2] X.env = (false, eval e X.env) :: starEach [.Name x p2] X.env := by rfl) (hs2 : starEach [.Name x p2] X.env = (false, eval (.Name x p2) X.env) :: starEach [] X.env := by rfl) (hpl : (backTo pos (starEach [.Name x p2] X.env)).any (·.1) = false := by rfl) :
    DX X (.Call (.Name "isinstance" p) [e, .Name x p2] [] pos) (M.bind fx fun d => M.pure (.bool (k d))) := by
  refine ⟨fun W tk σ H Γ fp rest Q S hW => we (pe_callB hc hg hm rfl (pa_cons pe_w (pa_cons (pe_bltn hgx hx hv (show RelV (.ty T) (.type T) from rfl) hn hd) pa_nil hs2) hs1) (by decide) (by decide) hs1 hpl) ?_⟩
  refine h.thn tk S hW fun d Γ1 v H1 fo fp1 S1 R1 G1 hW1 => ?_
  obtain ⟨rfl, R1⟩ := R1
  exact ⟨_, d, v, rfl, R1, hW1.done (fo := []) S1 ⟨rfl, .bl _⟩ (Go.refl _ _)⟩
end
end DS
namespace DS
open PySem PySem.Spec PyProof.Rows L2
/-! ### a slot's own object is rewritten -/
def O.node : O → Bool
  | .lst _ => true
  | .dic _ => true
  | _ => false
theorem cnt_nodup {l m : List Addr} (h : l.Nodup) (c : ∀ b, m.count b ≤ l.count b) : m.Nodup := List.nodup_iff_count.mpr fun b => Nat.le_trans (c b) (List.nodup_iff_count.mp h b)
theorem cnt_mem {l m : List Addr} (c : ∀ b, m.count b ≤ l.count b) {b : Addr} (h : b ∈ m) : b ∈ l := List.count_pos_iff.mp (Nat.lt_of_lt_of_le (List.count_pos_iff.mpr h) (c b))
theorem SOk.slot {H : Hp} {Γ : Env} {σ : St} {fp fo rest : List Addr} {i : Nat} {o : O} (S : SOk H Γ σ fp (fo ++ rest)) (e : Γ[i]? = some (some o)) (ho : o.node = true) :
    ∃ a fi f1 f2, σ[i]? = some (some (.ref a)) ∧ fp = f1 ++ (a :: fi) ++ f2 ∧ RepO (fp ++ (fo ++ rest)) H o (.ref a) (a :: fi) ∧
      ∀ fi' fo', (∀ b, (fi' ++ fo').count b ≤ (fi ++ fo).count b) → ∀ u, Ownable u →
        (∀ b w, H b = some w → b ∉ fp ++ (fo ++ rest) → upd H a u b = some w ∧ b ∉ f1 ++ (a :: fi') ++ f2 ++ (fo' ++ rest)) ∧ (∀ b ∈ fi' ++ fo', b ≠ a) ∧
        (∀ o', RepO (f1 ++ (a :: fi') ++ f2 ++ (fo' ++ rest)) (upd H a u) o' (.ref a) (a :: fi') → SOk (upd H a u) (Γ.set i (some o')) σ (f1 ++ (a :: fi') ++ f2) (fo' ++ rest)) ∧
        Go (fo ++ fp) H (fo' ++ (f1 ++ (a :: fi') ++ f2)) (upd H a u) := by
  obtain ⟨v, f, f1, f2, h1, h2, h3, h4, h5⟩ := S.env.split e
  have key : ∃ a fi, v = .ref a ∧ f = a :: fi := by
    cases h2 with
    | sh _ => cases ho
    | lst _ _ => exact ⟨_, _, rfl, rfl⟩
    | tup _ _ _ => cases ho
    | dic _ _ _ => exact ⟨_, _, rfl, rfl⟩
  obtain ⟨a, fi, rfl, rfl⟩ := key
  refine ⟨a, fi, f1, f2, h1, h3, h2, fun fi' fo' hc u hu => ?_⟩
  subst h3
  have cle : ∀ b, (f1 ++ (a :: fi') ++ f2 ++ (fo' ++ rest)).count b ≤ (f1 ++ (a :: fi) ++ f2 ++ (fo ++ rest)).count b := fun b => by
    have := hc b
    simp only [List.count_append, List.count_cons] at this ⊢
    omega
  have nd' := cnt_nodup S.nd cle
  have ne : ∀ b ∈ fi' ++ fo', b ≠ a := fun b hb ea => by
    subst ea
    have h1 := List.nodup_iff_count.mp nd' b
    have h2 : 0 < (fi' ++ fo').count b := List.count_pos_iff.mpr hb
    simp only [List.count_append, List.count_cons, beq_self_eq_true, if_true] at h1 h2
    omega
  have st : ∀ b w, H b = some w → b ∉ f1 ++ (a :: fi) ++ f2 ++ (fo ++ rest) → upd H a u b = some w ∧ b ∉ f1 ++ (a :: fi') ++ f2 ++ (fo' ++ rest) := fun b w ew n =>
    ⟨by rw [upd_ne (fun q => n (by rw [q]; simp))]; exact ew, fun q => n (cnt_mem cle q)⟩
  have go : Go (fo ++ (f1 ++ (a :: fi) ++ f2)) H (fo' ++ (f1 ++ (a :: fi') ++ f2)) (upd H a u) := by
    refine ⟨fun b w ew n => by rw [upd_ne (fun q => n (by rw [q]; simp))]; exact ew, fun b hb => .inl ?_⟩
    refine cnt_mem (l := fo ++ (f1 ++ (a :: fi) ++ f2)) (m := fo' ++ (f1 ++ (a :: fi') ++ f2)) (fun b => ?_) hb
    have := hc b
    simp only [List.count_append, List.count_cons] at this ⊢
    omega
  refine ⟨st, ne, fun o' R' => ⟨?_, nd', fun b hb => ?_⟩, go⟩
  · have q := h5 (f1 ++ (a :: fi') ++ f2 ++ (fo' ++ rest)) (upd H a u) st (fun b w ew hb => by
      rw [upd_ne fun q => ?_]
      · exact ew
      · subst q
        have h1 := List.nodup_iff_count.mp S.nd b
        have h2 : 0 < (f1 ++ f2).count b := List.count_pos_iff.mpr hb
        simp only [List.count_append, List.count_cons, beq_self_eq_true, if_true] at h1 h2
        omega) o' (.ref a) (a :: fi') R'
    rw [set_none h1] at q
    exact q
  · by_cases eb : b = a
    · subst eb; exact ⟨u, upd_same, hu⟩
    · obtain ⟨w, ew, ow⟩ := S.trk b (cnt_mem cle hb)
      exact ⟨w, by rw [upd_ne eb]; exact ew, ow⟩
/-- the name holds an owned list -/
def M.isL {α : Type} (i : Nat) (m : M α) : M α := fun Γ => match Γ[i]? with
  | some (some (.lst _)) => m Γ
  | _ => none
theorem M.isL_of {α β : Type} {X : Cx} {W : WX} {fp rest : List Addr} {H : Hp} {σ : St} {rep : Rp α β} {m : M α} {i : Nat} {Γ : Env} {Q : β → Hp → Prop} (h : Wp X W fp rest H σ rep (M.isL i m Γ) Q) : ∃ os, Γ[i]? = some (some (.lst os)) ∧ Wp X W fp rest H σ rep (m Γ) Q := by
  unfold M.isL at h
  split at h
  · rename_i os e; exact ⟨os, e, h⟩
  · exact h.elim
/-- the owned list is changed -/
def M.chL (i : Nat) (F : List O → Option (O × List O)) : M O := fun Γ => match Γ[i]? with
  | some (some (.lst os)) => match F os with
    | some (r, os') => some (.ok r, Γ.set i (some (.lst os')))
    | none => none
  | _ => none
theorem M.chL_of {α : Type} {X : Cx} {W : WX} {fp rest : List Addr} {H : Hp} {σ : St} {F : List O → Option (O × List O)} {i : Nat} {Γ : Env} {Q : V → Hp → Prop} (h : Wp X W fp rest H σ RepO (M.chL i F Γ) Q) :
    ∃ os r os', Γ[i]? = some (some (.lst os)) ∧ F os = some (r, os') ∧ Wp X W fp rest H σ RepO (M.pure r (Γ.set i (some (.lst os')))) Q := by
  unfold M.chL at h
  split at h
  · rename_i os e
    split at h
    · rename_i r os' e'; exact ⟨os, r, os', e, e', h⟩
    · exact h.elim
  · exact h.elim
theorem SOk.tyL {K : PySem.W.Frag} {H : Hp} {Γ : Env} {σ : St} {fp rest : List Addr} {i : Nat} {os : List O} (S : SOk H Γ σ fp rest) (e : Γ[i]? = some (some (.lst os))) : ∃ a, σ[i]? = some (some (.ref a)) ∧ tyV K "list" (.ref a) H := by
  obtain ⟨v, f, f1, f2, h1, h2, _⟩ := S.env.split e
  cases h2 with
  | lst h s => exact ⟨_, h1, .inl ⟨rfl, _, .inl (.inl h)⟩⟩
theorem RepOs.cl {A A' : List Addr} {H H' : Hp} {os : List O} {xs : List V} {f : List Addr} (R : RepOs A H os xs f) (k : ∀ b u, H b = some u → b ∉ A → H' b = some u ∧ b ∉ A') (a : Addr) (u : HO) (eH : H' = upd H a u) (n : ∀ b ∈ f, b ≠ a) : RepOs A' H' os xs f := by
  subst eH
  exact R.stay k fun b w e hb => by rw [upd_ne (n b hb)]; exact e
theorem RepO.cl {A A' : List Addr} {H H' : Hp} {os : O} {xs : V} {f : List Addr} (R : RepO A H os xs f) (k : ∀ b u, H b = some u → b ∉ A → H' b = some u ∧ b ∉ A') (a : Addr) (u : HO) (eH : H' = upd H a u) (n : ∀ b ∈ f, b ≠ a) : RepO A' H' os xs f := by
  subst eH
  exact R.stay k fun b w e hb => by rw [upd_ne (n b hb)]; exact e
section
variable {X : Cx} {e : Expr} {fo : M O} {fx : M D} {x : Str} {p p2 p3 pos : Pos}
noncomputable def opAppend (y : O) (os : List O) : Option (O × List O) := @ite _ (os.length < 16777216) (Classical.propDecidable _) (some (.sh .none, os ++ [y])) none
theorem sizeLine_lt {n : Nat} : n < 16777216 ↔ n < sizeLine := by rw [sizeLine_eq]
theorem de_append (i : Nat) (he : DE X e fo) (hN : X.N[i]? = some x := by rfl) (hv : Vis X.env.scope x := by first | exact Or.inl rfl | exact Or.inr (Or.inl rfl) | exact Or.inr (Or.inr rfl)) (hd : (x == ("__debug__" : Str)) = false := by decide)
    (hcd : (x == ("__classdict__" : Str)) = false := by decide) (hbase : attributeBase (.Name x p) "append" X.env (eval (.Name x p) X.env) = eval (.Name x p) X.env := by rfl)
    (hfew : ((backTo pos (starEach [e] X.env)).all (fun x => !x.1) && (backToKw pos (keywordEach [] X.env)).all (fun x => x.1.isSome) && decide (([e] : List Expr).length + ([] : List Keyword).length + (if ([] : List Keyword).isEmpty then 0 else 1) < 30)) = true := by rfl)
    (hline : (p2.endLine == pos.line) = true := by rfl) (hs : starEach [e] X.env = (false, eval e X.env) :: starEach [] X.env := by rfl) :
    DE X (.Call (.Attribute (.Name x p) "append" p2) [e] [] pos) (M.isL i (M.bind fo fun y => M.chL i (opAppend y))) := by
  refine ⟨fun W tk σ H Γ fp rest Q S hW => we (pe_bm PySem.F.plainAttrs_list PySem.F.slot_list_append PySem.F.type_list_append mt_append (pe_var hN hv hd hcd) (pa_cons pe_w pa_nil hs) hbase hfew hline hs) ?_⟩
  obtain ⟨os0, e0, hW⟩ := M.isL_of hW
  obtain ⟨a0, hσ, ty⟩ := S.tyL (K := X.K) e0
  refine ⟨_, hσ, ty, ?_⟩
  refine he.thn tk S hW fun o Γ1 y H1 f fp1 S1 R1 G1 hW1 => ?_
  obtain ⟨os, r, os', e1, e2, hW1⟩ := M.chL_of (α := O) hW1
  unfold opAppend at e2
  split at e2 <;> cases e2
  rename_i hz
  obtain ⟨a, fi, f1, f2, h1, h3, h2, h4⟩ := S1.slot e1 rfl
  rw [hσ] at h1; cases h1
  cases h2 with
  | lst hH s =>
    have hlen := s.length
    obtain ⟨st, ne, mk, go⟩ := h4 (fi ++ f) [] (fun b => by rw [List.append_nil]; exact Nat.le_refl _) (.lst (_ ++ [y])) trivial
    refine ⟨a0, _, y, rfl, rfl, hH, by rw [← hlen]; exact sizeLine_lt.mp hz, ?_⟩
    refine hW1.done (fo := []) (mk _ (.lst upd_same ?_)) (.sh .non) go
    refine (s.cl st _ _ rfl fun b hb => ne b (by simp [hb])).append ?_
    have z := RepOs.cons (R1.cl st _ _ rfl fun b hb => ne b (by simp [hb])) .nil
    rw [List.append_nil] at z
    exact z
noncomputable def opExtend (y : O) (os : List O) : Option (O × List O) := match y with
  | .lst ys => @ite _ (os.length + ys.length ≤ 16777216) (Classical.propDecidable _) (some (.sh .none, os ++ ys)) none
  | _ => none
theorem de_extend (i : Nat) (he : DE X e fo) (hN : X.N[i]? = some x := by rfl) (hv : Vis X.env.scope x := by first | exact Or.inl rfl | exact Or.inr (Or.inl rfl) | exact Or.inr (Or.inr rfl)) (hd : (x == ("__debug__" : Str)) = false := by decide)
    (hcd : (x == ("__classdict__" : Str)) = false := by decide) (hbase : attributeBase (.Name x p) "extend" X.env (eval (.Name x p) X.env) = eval (.Name x p) X.env := by rfl)
    (hfew : ((backTo pos (starEach [e] X.env)).all (fun x => !x.1) && (backToKw pos (keywordEach [] X.env)).all (fun x => x.1.isSome) && decide (([e] : List Expr).length + ([] : List Keyword).length + (if ([] : List Keyword).isEmpty then 0 else 1) < 30)) = true := by rfl)
    (hline : (p2.endLine == pos.line) = true := by rfl) (hs : starEach [e] X.env = (false, eval e X.env) :: starEach [] X.env := by rfl) :
    DE X (.Call (.Attribute (.Name x p) "extend" p2) [e] [] pos) (M.isL i (M.bind fo fun y => M.chL i (opExtend y))) := by
  refine ⟨fun W tk σ H Γ fp rest Q S hW => we (pe_bm PySem.F.plainAttrs_list PySem.F.slot_list_extend PySem.F.type_list_extend mt_extend (pe_var hN hv hd hcd) (pa_cons pe_w pa_nil hs) hbase hfew hline hs) ?_⟩
  obtain ⟨os0, e0, hW⟩ := M.isL_of hW
  obtain ⟨a0, hσ, ty⟩ := S.tyL (K := X.K) e0
  refine ⟨_, hσ, ty, ?_⟩
  refine he.thn tk S hW fun o Γ1 y H1 f fp1 S1 R1 G1 hW1 => ?_
  obtain ⟨os, r, os', e1, e2, hW1⟩ := M.chL_of (α := O) hW1
  obtain ⟨a, fi, f1, f2, h1, h3, h2, h4⟩ := S1.slot e1 rfl
  rw [hσ] at h1; cases h1
  cases h2 with
  | lst hH s =>
    have hlen := s.length
    unfold opExtend at e2
    split at e2
    · split at e2 <;> cases e2
      rename_i ys hz
      cases R1 with
      | @lst _ b zs fz hB t =>
        have hl2 := t.length
        obtain ⟨st, ne, mk, go⟩ := h4 (fi ++ fz) [] (fun c => by simp only [List.append_nil, List.count_append, List.count_cons]; omega) (.lst (_ ++ zs)) trivial
        refine ⟨a0, b, _, zs, rfl, rfl, hH, hB, by rw [← hlen, ← hl2]; exact sizeLine_le.mp hz, ?_⟩
        refine hW1.done (fo := []) (mk _ (.lst upd_same ?_)) (.sh .non) go
        exact (s.cl st _ _ rfl fun b hb => ne b (by simp [hb])).append (t.cl st _ _ rfl fun b hb => ne b (by simp [hb]))
    · cases e2
noncomputable def opPopAt (i : Int) (os : List O) : Option (O × List O) := @ite _ (-(2 ^ 63) ≤ i ∧ i < 2 ^ 63) (Classical.propDecidable _) ((seqIndex? i os.length).bind fun k => (os[k]?).map fun o => (o, os.eraseIdx k)) none
def opPop (os : List O) : Option (O × List O) := (os[os.length - 1]?).map fun o => (o, os.dropLast)
def opClear (os : List O) : Option (O × List O) := some (.sh .none, [])
def asI : D → Option Int
  | .int i => some i
  | _ => none
theorem de_popAt (i : Nat) (he : DX X e fx) (hN : X.N[i]? = some x := by rfl) (hv : Vis X.env.scope x := by first | exact Or.inl rfl | exact Or.inr (Or.inl rfl) | exact Or.inr (Or.inr rfl)) (hd : (x == ("__debug__" : Str)) = false := by decide)
    (hcd : (x == ("__classdict__" : Str)) = false := by decide) (hbase : attributeBase (.Name x p) "pop" X.env (eval (.Name x p) X.env) = eval (.Name x p) X.env := by rfl)
    (hfew : ((backTo pos (starEach [e] X.env)).all (fun x => !x.1) && (backToKw pos (keywordEach [] X.env)).all (fun x => x.1.isSome) && decide (([e] : List Expr).length + ([] : List Keyword).length + (if ([] : List Keyword).isEmpty then 0 else 1) < 30)) = true := by rfl)
    (hline : (p2.endLine == pos.line) = true := by rfl) (hs : starEach [e] X.env = (false, eval e X.env) :: starEach [] X.env := by rfl) :
    DE X (.Call (.Attribute (.Name x p) "pop" p2) [e] [] pos) (M.isL i (M.bind fx fun d => M.bind (M.lift (asI d)) fun k => M.chL i (opPopAt k))) := by
  refine ⟨fun W tk σ H Γ fp rest Q S hW => we (pe_bm PySem.F.plainAttrs_list PySem.F.slot_list_pop PySem.F.type_list_pop mt_popAt (pe_var hN hv hd hcd) (pa_cons pe_w pa_nil hs) hbase hfew hline hs) ?_⟩
  obtain ⟨os0, e0, hW⟩ := M.isL_of hW
  obtain ⟨a0, hσ, ty⟩ := S.tyL (K := X.K) e0
  refine ⟨_, hσ, ty, ?_⟩
  refine he.thn tk S hW fun d Γ1 y H1 f fp1 S1 R1 G1 hW1 => ?_
  obtain ⟨rfl, R1⟩ := R1
  obtain ⟨k, ek, hW1⟩ := hW1.lift
  cases d <;> cases ek
  cases R1
  obtain ⟨os, r, os', e1, e2, hW1⟩ := M.chL_of (α := O) hW1
  unfold opPopAt at e2
  split at e2
  · rename_i hr
    obtain ⟨j, h5, h6⟩ := Option.bind_eq_some_iff.mp e2
    obtain ⟨o, h7, h8⟩ := Option.map_eq_some_iff.mp h6
    cases h8
    obtain ⟨a, fi, f1, f2, h1, h3, h2, h4⟩ := S1.slot (fo := []) e1 rfl
    rw [hσ] at h1; cases h1
    cases h2 with
    | lst hH s =>
      have hlen := s.length
      obtain ⟨v, fo', g1, g2, k1, k2, k3, k4, _⟩ := s.split h7
      subst k3
      obtain ⟨st, ne, mk, go⟩ := h4 (g1 ++ g2) fo' (fun b => by simp only [List.append_nil, List.count_append]; omega) (.lst (List.eraseIdx _ j)) trivial
      refine ⟨a0, _, k, j, v, rfl, rfl, hH, hr.1, hr.2, by rw [← hlen]; exact h5, k1, ?_⟩
      refine hW1.done (fo := fo') (mk _ (.lst upd_same (k4.cl st _ _ rfl fun b hb => ne b (by simp only [List.mem_append] at hb ⊢; exact .inl hb)))) (k2.cl st _ _ rfl fun b hb => ne b (by simp [hb])) go
  · cases e2
theorem de_pop (i : Nat) (hN : X.N[i]? = some x := by rfl) (hv : Vis X.env.scope x := by first | exact Or.inl rfl | exact Or.inr (Or.inl rfl) | exact Or.inr (Or.inr rfl)) (hd : (x == ("__debug__" : Str)) = false := by decide)
    (hcd : (x == ("__classdict__" : Str)) = false := by decide) (hbase : attributeBase (.Name x p) "pop" X.env (eval (.Name x p) X.env) = eval (.Name x p) X.env := by rfl) (hline : (p2.endLine == pos.line) = true := by rfl) :
    DE X (.Call (.Attribute (.Name x p) "pop" p2) [] [] pos) (M.chL i opPop) := by
  refine ⟨fun W tk σ H Γ fp rest Q S hW => we (pe_bm0 PySem.F.plainAttrs_list PySem.F.slot_list_pop PySem.F.type_list_pop mt_pop (pe_var hN hv hd hcd) hbase hline) ?_⟩
  obtain ⟨os, r, os', e1, e2, hW1⟩ := M.chL_of (α := O) hW
  obtain ⟨a0, hσ, ty⟩ := S.tyL (K := X.K) e1
  refine ⟨_, hσ, ty, ?_⟩
  unfold opPop at e2
  obtain ⟨o, h7, h8⟩ := Option.map_eq_some_iff.mp e2
  cases h8
  obtain ⟨a, fi, f1, f2, h1, h3, h2, h4⟩ := SOk.slot (fo := []) S e1 rfl
  rw [hσ] at h1; cases h1
  cases h2 with
  | @lst _ _ xs _ hH s =>
    have hlen := s.length
    obtain ⟨v, fo', g1, g2, k1, k2, k3, k4, _⟩ := s.split h7
    subst k3
    obtain ⟨st, ne, mk, go⟩ := h4 (g1 ++ g2) fo' (fun b => by simp only [List.append_nil, List.count_append]; omega) (.lst xs.dropLast) trivial
    have hd1 : ∀ {α : Type} (l : List α), l.eraseIdx (l.length - 1) = l.dropLast := fun l => List.eraseIdx_length_sub_one
    rw [hlen, hd1 xs, ← hlen, hd1 os] at k4
    refine ⟨a0, _, v, rfl, rfl, hH, by rw [← hlen]; exact k1, ?_⟩
    exact hW1.done (fo := fo') (mk _ (.lst upd_same (k4.cl st _ _ rfl fun b hb => ne b (by simp only [List.mem_append] at hb ⊢; exact .inl hb)))) (k2.cl st _ _ rfl fun b hb => ne b (by simp [hb])) go
theorem de_clear (i : Nat) (hN : X.N[i]? = some x := by rfl) (hv : Vis X.env.scope x := by first | exact Or.inl rfl | exact Or.inr (Or.inl rfl) | exact Or.inr (Or.inr rfl)) (hd : (x == ("__debug__" : Str)) = false := by decide)
    (hcd : (x == ("__classdict__" : Str)) = false := by decide) (hbase : attributeBase (.Name x p) "clear" X.env (eval (.Name x p) X.env) = eval (.Name x p) X.env := by rfl) (hline : (p2.endLine == pos.line) = true := by rfl) :
    DE X (.Call (.Attribute (.Name x p) "clear" p2) [] [] pos) (M.chL i opClear) := by
  refine ⟨fun W tk σ H Γ fp rest Q S hW => we (pe_bm0 PySem.F.plainAttrs_list PySem.F.slot_list_clear PySem.F.type_list_clear mt_clear (pe_var hN hv hd hcd) hbase hline) ?_⟩
  obtain ⟨os, r, os', e1, e2, hW1⟩ := M.chL_of (α := O) hW
  obtain ⟨a0, hσ, ty⟩ := S.tyL (K := X.K) e1
  refine ⟨_, hσ, ty, ?_⟩
  cases e2
  obtain ⟨a, fi, f1, f2, h1, h3, h2, h4⟩ := SOk.slot (fo := []) S e1 rfl
  rw [hσ] at h1; cases h1
  cases h2 with
  | lst hH s =>
    obtain ⟨st, ne, mk, go⟩ := h4 [] [] (fun b => by simp) (.lst []) trivial
    exact ⟨a0, _, rfl, rfl, hH, hW1.done (fo := []) (mk _ (.lst upd_same .nil)) (.sh .non) go⟩
/-! ### name[k] = e -/
def setL (os : List O) (k : Int) (o : O) : Option (List O) := (ixN os.length k).map fun j => os.set j o
end
end DS
namespace DS
open PySem PySem.Spec PyProof.Rows L2
/-! ### keys -/
def asK : D → Option Key
  | .int i => some (.inl i)
  | .str z => some (.inr z)
  | _ => none
def asKs : List D → Option (List Key)
  | [] => some []
  | d :: ds => match asK d, asKs ds with
    | some k, some ks => some (k :: ks)
    | _, _ => none
def asKK : D → Option (Key ⊕ List Key)
  | .tuple ds => (asKs ds).map .inr
  | .int i => some (.inl (.inl i))
  | .str z => some (.inl (.inr z))
  | _ => none
def sameK (a b : D) : Bool := match asKK a, asKK b with
  | some x, some y => decide (x = y)
  | _, _ => false
def kindK (a b : D) : Bool := match asKK a, asKK b with
  | some (.inl _), some (.inl _) => true
  | some (.inr _), some (.inr _) => true
  | _, _ => false
def keysOk (ks : List D) (k : D) : Bool := (asKK k).isSome && ks.all fun x => kindK k x
def getK {α : Type} (kvs : List (D × α)) (k : D) : Option α := (kvs.find? fun p => sameK p.1 k).map (·.2)
def putKO (kvs : List (D × O)) (k : D) (o : O) : Option (List (D × O)) :=
  if keysOk (kvs.map (·.1)) k = true ∧ kvs.length < 16777216 then
    if (kvs.any fun p => sameK p.1 k) = true then match o with
      | .sh d => some (kvs.map fun p => if sameK p.1 k = true then (p.1, .sh d) else p)
      | _ => none
    else some (kvs ++ [(k, o)])
  else none
theorem asKs_map : ∀ l : List Key, asKs (l.map keyD) = some l
  | [] => rfl
  | k :: l => by
    rw [List.map_cons]
    unfold asKs
    rw [asKs_map l]
    cases k <;> rfl
theorem asKK_D (k : Key) : asKK (keyD k) = some (.inl k) := by cases k <;> rfl
theorem asKK_T (l : List Key) : asKK (keyT l) = some (.inr l) := by
  show (asKs (l.map keyD)).map Sum.inr = some (.inr l)
  rw [asKs_map]; rfl
theorem asKs_inv : ∀ {ds : List D} {l : List Key}, asKs ds = some l → ds = l.map keyD
  | [], _, h => by cases h; rfl
  | d :: ds, l, h => by
    unfold asKs at h
    split at h
    · rename_i k ks h1 h2
      cases h
      rw [List.map_cons, ← asKs_inv h2]
      congr 1
      cases d <;> cases h1 <;> rfl
    · cases h
theorem asKK_inl {d : D} {k : Key} (h : asKK d = some (.inl k)) : d = keyD k := by
  cases d with
  | int i => cases h; rfl
  | str z => cases h; rfl
  | tuple ds =>
    have h : (asKs ds).map Sum.inr = some (Sum.inl k) := h
    cases e : asKs ds <;> rw [e] at h <;> cases h
  | _ => cases h
theorem asKK_inr {d : D} {l : List Key} (h : asKK d = some (.inr l)) : d = keyT l := by
  cases d with
  | tuple ds =>
    have h : (asKs ds).map Sum.inr = some (Sum.inr l) := h
    cases e : asKs ds with
    | none => rw [e] at h; cases h
    | some l' => rw [e] at h; cases h; unfold keyT; rw [← asKs_inv e]
  | _ => cases h
theorem sameK_D (a b : Key) : sameK (keyD a) (keyD b) = decide (a = b) := by
  unfold sameK
  rw [asKK_D, asKK_D]
  simp
theorem sameK_T (a b : List Key) : sameK (keyT a) (keyT b) = decide (a = b) := by
  unfold sameK
  rw [asKK_T, asKK_T]
  simp
section
variable {A : List Addr} {H : Hp}
theorem repD_key {k : Key} {y : V} (r : RepD A H (keyD k) y) : y = kV k := by cases k <;> cases r <;> rfl
theorem repDs_keys : ∀ {l : List Key} {vs : List V}, RepDs A H (l.map keyD) vs → vs = l.map kV
  | [], _, .nil => rfl
  | k :: l, _, .cons r s => by rw [repD_key r, repDs_keys s]; rfl
theorem repD_keyT {l : List Key} {y : V} (r : RepD A H (keyT l) y) : ∃ b, y = .ref b ∧ H b = some (.tup (l.map kV)) := by
  unfold keyT at r
  cases r with
  | tup n h s => rw [repDs_keys s] at h; exact ⟨_, rfl, h⟩
end
/-! ### an empty dict may be of either kind -/
theorem upd_upd {H : Hp} {a : Addr} {u w : HO} : upd (upd H a u) a w = upd H a w := by
  funext b
  by_cases e : b = a
  · subst e; rw [upd_same, upd_same]
  · rw [upd_ne e, upd_ne e, upd_ne e]
theorem upd_id {H : Hp} {a : Addr} {u : HO} (h : H a = some u) : upd H a u = H := by
  funext b
  by_cases e : b = a
  · subst e; rw [upd_same, h]
  · rw [upd_ne e]
section
variable {X : Cx} {pins : List (Addr × Obj)} {σ : St} {H : Hp} {s : Shared} {a : Addr}
theorem Inv.toT (I : Inv X pins σ H s) (e : H a = some (.dK [])) : Inv X pins σ (upd H a (.dT [])) s := by
  obtain ⟨z, hd, vs, rel, o, es, ep, h1, h2, h3, h4, h5, h6⟩ := dk_of I.hok e
  cases rel
  cases hes : es.toList with
  | cons x l => rw [hes] at h5; cases h5
  | nil =>
    exact I.write (x := a) (e := a) (t' := s.toks) (by rw [e]; trivial) (.inl rfl) (fun _ _ _ q => q) ⟨o, h1⟩ ⟨z, hd, [], .nil, o, es, ep, h1, h2, h3, hes, List.nodup_nil⟩
theorem Inv.toK (I : Inv X pins σ H s) (e : H a = some (.dT [])) : Inv X pins σ (upd H a (.dK [])) s := by
  obtain ⟨z, hd, xs, rel, o, es, ep, h1, h2, h3, h4, h5⟩ := (show ObjOk X.prog X.w H s.heap a (.dT []) from I.hok a _ e)
  cases rel
  have hes : es.toList = [] := h4
  refine I.write (x := a) (e := a) (t' := s.toks) (by rw [e]; trivial) (.inl rfl) (fun _ _ _ q => q) ⟨o, h1⟩ ⟨z, hd, [], .nil, o, es, ep, h1, h2, h3, ?_, ?_, List.nodup_nil⟩
  · intro x hx
    exfalso
    have e0 : es = #[] := Array.toList_inj.mp hes
    subst e0
    first
      | exact absurd hx (by simp)
      | simp at hx
  · rw [hes]; exact .nil
end
/-- the empty dict of the other kind -/
def OtherD (H : Hp) (a : Addr) (H0 : Hp) : Prop := H0 = H ∨ (H a = some (.dK []) ∧ H0 = upd H a (.dT [])) ∨ (H a = some (.dT []) ∧ H0 = upd H a (.dK []))
theorem OtherD.inv {X : Cx} {pins : List (Addr × Obj)} {σ : St} {H H0 : Hp} {s : Shared} {a : Addr} (h : OtherD H a H0) (I : Inv X pins σ H s) : Inv X pins σ H0 s := by
  rcases h with rfl | ⟨e, rfl⟩ | ⟨e, rfl⟩
  · exact I
  · exact Inv.toT I e
  · exact Inv.toK I e
theorem OtherD.back {X : Cx} {pins : List (Addr × Obj)} {σ : St} {H H0 : Hp} {s : Shared} {a : Addr} (h : OtherD H a H0) (I : Inv X pins σ H0 s) : Inv X pins σ H s := by
  rcases h with rfl | ⟨e, rfl⟩ | ⟨e, rfl⟩
  · exact I
  · have q := Inv.toK I upd_same; rw [upd_upd, upd_id e] at q; exact q
  · have q := Inv.toT I upd_same; rw [upd_upd, upd_id e] at q; exact q
/-! ### reading a dict -/
noncomputable def lookD (kvs : List (D × D)) (k : D) : Option (Option D) := @ite _ (keysOk (kvs.map (·.1)) k = true) (Classical.propDecidable _) (some (getK kvs k)) none
section
variable {A : List Addr} {H : Hp} {a : Addr}
theorem all_kindK {kv : List (Key × V)} {l : List Key} (h : (kv.map fun p => keyD p.1).all (fun x => kindK (keyT l) x) = true) : kv = [] := by
  cases kv with
  | nil => rfl
  | cons p r =>
    rw [List.map_cons, List.all_cons, Bool.and_eq_true] at h
    have := h.1
    unfold kindK at this
    rw [asKK_T, asKK_D] at this
    cases this
theorem all_kindT {kv : List (List Key × V)} {l : Key} (h : (kv.map fun p => keyT p.1).all (fun x => kindK (keyD l) x) = true) : kv = [] := by
  cases kv with
  | nil => rfl
  | cons p r =>
    rw [List.map_cons, List.all_cons, Bool.and_eq_true] at h
    have := h.1
    unfold kindK at this
    rw [asKK_T, asKK_D] at this
    cases this
theorem getK_D : ∀ {kvs : List (D × D)} {kv : List (Key × V)} {k : Key}, kvs.map (·.1) = kv.map (fun p => keyD p.1) → RepDs A H (kvs.map (·.2)) (kv.map (·.2)) →
    (getK kvs (keyD k) = none ∧ valV kv k = none) ∨ ∃ d v, getK kvs (keyD k) = some d ∧ valV kv k = some v ∧ RepD A H d v
  | [], [], _, _, _ => .inl ⟨rfl, rfl⟩
  | [], _ :: _, _, e, _ => by simp at e
  | _ :: _, [], _, e, _ => by simp at e
  | p :: kvs, q :: kv, k, e, r => by
    rw [List.map_cons, List.map_cons] at e r
    injection e with e1 e2
    cases r with
    | cons r1 r2 =>
      by_cases h : q.1 = k
      · right
        refine ⟨p.2, q.2, ?_, valV_pos h, r1⟩
        unfold getK
        rw [List.find?_cons, e1, sameK_D, decide_eq_true h]; rfl
      · have g : getK (p :: kvs) (keyD k) = getK kvs (keyD k) := by
          unfold getK
          rw [List.find?_cons, e1, sameK_D, decide_eq_false h]
        rw [g, valV_neg h]
        exact getK_D e2 r2
theorem getK_T : ∀ {kvs : List (D × D)} {kv : List (List Key × V)} {k : List Key}, kvs.map (·.1) = kv.map (fun p => keyT p.1) → RepDs A H (kvs.map (·.2)) (kv.map (·.2)) →
    (getK kvs (keyT k) = none ∧ valV kv k = none) ∨ ∃ d v, getK kvs (keyT k) = some d ∧ valV kv k = some v ∧ RepD A H d v
  | [], [], _, _, _ => .inl ⟨rfl, rfl⟩
  | [], _ :: _, _, e, _ => by simp at e
  | _ :: _, [], _, e, _ => by simp at e
  | p :: kvs, q :: kv, k, e, r => by
    rw [List.map_cons, List.map_cons] at e r
    injection e with e1 e2
    cases r with
    | cons r1 r2 =>
      by_cases h : q.1 = k
      · right
        refine ⟨p.2, q.2, ?_, valV_pos h, r1⟩
        unfold getK
        rw [List.find?_cons, e1, sameK_T, decide_eq_true h]; rfl
      · have g : getK (p :: kvs) (keyT k) = getK kvs (keyT k) := by
          unfold getK
          rw [List.find?_cons, e1, sameK_T, decide_eq_false h]
        rw [g, valV_neg h]
        exact getK_T e2 r2
/-- what a dict tells at a key, of data -/
theorem dictGet {kvs : List (D × D)} {k : D} {y : V} {r : Option D} {u : HO} {vs : List V} (e : H a = some u) (hu : DictU u (kvs.map (·.1)) vs) (hv : RepDs A H (kvs.map (·.2)) vs) (rk : RepD A H k y) (h : lookD kvs k = some r) :
    ∃ H0 o, OtherD H a H0 ∧ DGet H0 a y o ∧ ((r = none ∧ o = none) ∨ ∃ d v, r = some d ∧ o = some v ∧ RepD A H d v) := by
  unfold lookD at h
  split at h <;> cases h
  rename_i ok
  unfold keysOk at ok
  rw [Bool.and_eq_true] at ok
  obtain ⟨ok1, ok2⟩ := ok
  obtain ⟨kk, hkk⟩ := Option.isSome_iff_exists.mp ok1
  generalize hks : kvs.map (·.1) = ks at hu ok2
  cases kk with
  | inl kk =>
    have := asKK_inl hkk; subst this
    rw [repD_key rk]
    cases hu with
    | k kv =>
      refine ⟨H, valV kv kk, .inl rfl, .inl ⟨kv, kk, .inl e, rfl, rfl⟩, ?_⟩
      rcases getK_D (k := kk) hks hv with ⟨h1, h2⟩ | ⟨d, v, h1, h2, h3⟩
      · exact .inl ⟨h1, h2⟩
      · exact .inr ⟨d, v, h1, h2, h3⟩
    | t kv =>
      have := all_kindT ok2; subst this
      cases kvs with
      | cons _ _ => simp at hks
      | nil => exact ⟨_, none, .inr (.inr ⟨e, rfl⟩), .inl ⟨[], kk, .inl upd_same, rfl, rfl⟩, .inl ⟨rfl, rfl⟩⟩
  | inr kk =>
    have := asKK_inr hkk; subst this
    obtain ⟨b, rfl, hb⟩ := repD_keyT rk
    cases hu with
    | t kv =>
      refine ⟨H, valV kv kk, .inl rfl, .inr ⟨kv, kk, b, .inl e, rfl, hb, rfl⟩, ?_⟩
      rcases getK_T (k := kk) hks hv with ⟨h1, h2⟩ | ⟨d, v, h1, h2, h3⟩
      · exact .inl ⟨h1, h2⟩
      · exact .inr ⟨d, v, h1, h2, h3⟩
    | k kv =>
      have := all_kindK ok2; subst this
      have nb : b ≠ a := fun q => by subst q; rw [e] at hb; cases hb
      cases kvs with
      | cons _ _ => simp at hks
      | nil => exact ⟨_, none, .inr (.inl ⟨e, rfl⟩), .inr ⟨[], kk, b, .inl upd_same, rfl, by rw [upd_ne nb]; exact hb, rfl⟩, .inl ⟨rfl, rfl⟩⟩
end
section
variable {X : Cx} {pins : List (Addr × Obj)} {σ : St} {H : Hp} {s : Shared} {a : Addr}
/-- sequences and dicts -/
noncomputable def dIx : D → D → Option D
  | .dict kvs, k => (lookD kvs k).bind id
  | x, y => dIdx x y
theorem od_ixD (hu : X.A.units + 1 < cLine) : IxR X (rDD dIx) := by
  intro value slice pins s σ H x y v u Q I rx ry h hs
  obtain ⟨A, dx, dy, d, r1, r2, e, na, q⟩ := h
  cases dx with
  | dict kvs =>
    obtain ⟨r, e1, e2⟩ := Option.bind_eq_some_iff.mp (show (lookD kvs dy).bind id = some d from e)
    have e2 : r = some d := e2
    subst e2
    cases r1 with
    | dic n h1 u1 s1 =>
      cases rx
      obtain ⟨H0, o, ot, g, gr⟩ := dictGet h1 u1 s1 r2 e1
      rcases gr with ⟨h, _⟩ | ⟨d', v', hd, rfl, R⟩
      · cases h
      · cases hd
        have I0 := ot.inv I
        refine tail_any (ops := [.ref _, u]) (dict_typeIs I0 g) PySem.F.slot_dict_getitem.lookup (d_getItem hu I0 g ry fun w' s3 I3 rw' => ⟨v', H, ot.back I3, rw', q _ _ (fun _ _ h => h) R⟩) hs
  | _ => exact od_ix value slice pins s σ H x y v u Q I rx ry ⟨A, _, dy, d, r1, r2, e, na, q⟩ hs
noncomputable def dInX : D → D → Option D
  | k, .dict kvs => (lookD kvs k).map fun r => .bool r.isSome
  | x, y => dIn x y
noncomputable def dNotInX : D → D → Option D
  | k, .dict kvs => (lookD kvs k).map fun r => .bool (!r.isSome)
  | x, y => dNotIn x y
theorem od_inX (hu : X.A.units + 100 < cLine) : OpD X (compareOp .In) dInX := by
  intro pins s σ H x y v u Q I rx ry h
  obtain ⟨A, dx, dy, d, r1, r2, e, na, q⟩ := h
  cases dy with
  | dict kvs =>
    obtain ⟨r, e1, e2⟩ := Option.map_eq_some_iff.mp (show (lookD kvs dx).map (fun r => PyData.bool r.isSome) = some d from e)
    subst e2
    cases r2 with
    | dic n h1 u1 s1 =>
      cases ry
      obtain ⟨H0, o, ot, g, gr⟩ := dictGet h1 u1 s1 r1 e1
      have I0 := ot.inv I
      have ho : o.isSome = r.isSome := by rcases gr with ⟨h1, h2⟩ | ⟨_, _, h1, h2, _⟩ <;> rw [h1, h2] <;> rfl
      exact d_in (by omega) I0 g rx fun s3 I3 => ⟨.bl o.isSome, H, ot.back I3, rfl, q _ _ (fun _ _ h => h) (by rw [ho]; exact .bl _)⟩
  | _ => exact od_in hu pins s σ H x y v u Q I rx ry ⟨A, dx, _, d, r1, r2, by cases dx <;> exact e, na, q⟩
theorem od_notInX (hu : X.A.units + 100 < cLine) : OpD X (compareOp .NotIn) dNotInX := by
  intro pins s σ H x y v u Q I rx ry h
  obtain ⟨A, dx, dy, d, r1, r2, e, na, q⟩ := h
  cases dy with
  | dict kvs =>
    obtain ⟨r, e1, e2⟩ := Option.map_eq_some_iff.mp (show (lookD kvs dx).map (fun r => PyData.bool (!r.isSome)) = some d from e)
    subst e2
    cases r2 with
    | dic n h1 u1 s1 =>
      cases ry
      obtain ⟨H0, o, ot, g, gr⟩ := dictGet h1 u1 s1 r1 e1
      have I0 := ot.inv I
      have ho : o.isSome = r.isSome := by rcases gr with ⟨h1, h2⟩ | ⟨_, _, h1, h2, _⟩ <;> rw [h1, h2] <;> rfl
      exact d_notIn (by omega) I0 g rx fun s3 I3 => ⟨.bl (!o.isSome), H, ot.back I3, rfl, q _ _ (fun _ _ h => h) (by rw [ho]; exact .bl _)⟩
  | _ => exact od_notIn hu pins s σ H x y v u Q I rx ry ⟨A, dx, _, d, r1, r2, by cases dx <;> exact e, na, q⟩
end
end DS
namespace DS
open PySem PySem.Spec PyProof.Rows L2
/-! ### writing a dict -/
section
variable {A : List Addr} {H : Hp} {a : Addr}
theorem any_D {kk : Key} {α : Type} : ∀ {kvs : List (D × α)} {kv : List (Key × V)}, kvs.map (·.1) = kv.map (fun p => keyD p.1) → (kvs.any fun p => sameK p.1 (keyD kk)) = kv.any fun p => decide (p.1 = kk)
  | [], [], _ => rfl
  | [], _ :: _, e => by simp at e
  | _ :: _, [], e => by simp at e
  | p :: kvs, q :: kv, e => by
    rw [List.map_cons, List.map_cons] at e
    injection e with e1 e2
    rw [List.any_cons, List.any_cons, e1, sameK_D, any_D e2]
theorem any_T {kk : List Key} {α : Type} : ∀ {kvs : List (D × α)} {kv : List (List Key × V)}, kvs.map (·.1) = kv.map (fun p => keyT p.1) → (kvs.any fun p => sameK p.1 (keyT kk)) = kv.any fun p => decide (p.1 = kk)
  | [], [], _ => rfl
  | [], _ :: _, e => by simp at e
  | _ :: _, [], e => by simp at e
  | p :: kvs, q :: kv, e => by
    rw [List.map_cons, List.map_cons] at e
    injection e with e1 e2
    rw [List.any_cons, List.any_cons, e1, sameK_T, any_T e2]
theorem repl_D {kk : Key} {d : D} {w : V} (rw' : RepD A H d w) : ∀ {kvs : List (D × O)} {kv : List (Key × V)} {f : List Addr}, kvs.map (·.1) = kv.map (fun p => keyD p.1) → RepOs A H (kvs.map (·.2)) (kv.map (·.2)) f →
    (kvs.map fun p => if sameK p.1 (keyD kk) = true then (p.1, .sh d) else p).map (·.1) = (kv.map fun p => if p.1 = kk then (p.1, w) else p).map (fun p => keyD p.1) ∧
      ∃ f', RepOs A H ((kvs.map fun p => if sameK p.1 (keyD kk) = true then (p.1, .sh d) else p).map (·.2)) ((kv.map fun p => if p.1 = kk then (p.1, w) else p).map (·.2)) f' ∧ ∀ b, f'.count b ≤ f.count b
  | [], [], _, _, .nil => ⟨rfl, [], .nil, fun _ => Nat.le_refl _⟩
  | [], _ :: _, _, e, _ => by simp at e
  | _ :: _, [], _, e, _ => by simp at e
  | p :: kvs, q :: kv, f, e, r => by
    rw [List.map_cons, List.map_cons] at e r
    injection e with e1 e2
    cases r with
    | cons r1 r2 =>
      obtain ⟨h1, f', h2, h3⟩ := repl_D rw' e2 r2
      simp only [List.map_cons, e1, sameK_D, decide_eq_true_eq]
      by_cases h : q.1 = kk
      · rw [if_pos h, if_pos h]
        refine ⟨by rw [h1], f', .cons (fo := []) (.sh rw') h2, fun b => ?_⟩
        have := h3 b
        rw [List.count_append]; omega
      · rw [if_neg h, if_neg h]
        refine ⟨by rw [h1, e1], _, .cons r1 h2, fun b => ?_⟩
        have := h3 b
        rw [List.count_append, List.count_append]; omega
theorem repl_T {kk : List Key} {d : D} {w : V} (rw' : RepD A H d w) : ∀ {kvs : List (D × O)} {kv : List (List Key × V)} {f : List Addr}, kvs.map (·.1) = kv.map (fun p => keyT p.1) → RepOs A H (kvs.map (·.2)) (kv.map (·.2)) f →
    (kvs.map fun p => if sameK p.1 (keyT kk) = true then (p.1, .sh d) else p).map (·.1) = (kv.map fun p => if p.1 = kk then (p.1, w) else p).map (fun p => keyT p.1) ∧
      ∃ f', RepOs A H ((kvs.map fun p => if sameK p.1 (keyT kk) = true then (p.1, .sh d) else p).map (·.2)) ((kv.map fun p => if p.1 = kk then (p.1, w) else p).map (·.2)) f' ∧ ∀ b, f'.count b ≤ f.count b
  | [], [], _, _, .nil => ⟨rfl, [], .nil, fun _ => Nat.le_refl _⟩
  | [], _ :: _, _, e, _ => by simp at e
  | _ :: _, [], _, e, _ => by simp at e
  | p :: kvs, q :: kv, f, e, r => by
    rw [List.map_cons, List.map_cons] at e r
    injection e with e1 e2
    cases r with
    | cons r1 r2 =>
      obtain ⟨h1, f', h2, h3⟩ := repl_T rw' e2 r2
      simp only [List.map_cons, e1, sameK_T, decide_eq_true_eq]
      by_cases h : q.1 = kk
      · rw [if_pos h, if_pos h]
        refine ⟨by rw [h1], f', .cons (fo := []) (.sh rw') h2, fun b => ?_⟩
        have := h3 b
        rw [List.count_append]; omega
      · rw [if_neg h, if_neg h]
        refine ⟨by rw [h1, e1], _, .cons r1 h2, fun b => ?_⟩
        have := h3 b
        rw [List.count_append, List.count_append]; omega
theorem dictPut {kvs kvs' : List (D × O)} {k : D} {y w : V} {o : O} {u : HO} {vs : List V} {f fo : List Addr} (e : H a = some u) (hu : DictU u (kvs.map (·.1)) vs) (hv : RepOs A H (kvs.map (·.2)) vs f) (rk : RepD A H k y) (ro : RepO A H o w fo) (h : putKO kvs k o = some kvs') :
    ∃ H0 u' vs' f', OtherD H a H0 ∧ DPut H0 a y w (upd H a u') ∧ Ownable u' ∧ DictU u' (kvs'.map (·.1)) vs' ∧ RepOs A H (kvs'.map (·.2)) vs' f' ∧ ∀ b, f'.count b ≤ (f ++ fo).count b := by
  unfold putKO at h
  split at h
  · rename_i ok
    obtain ⟨ok, hlen⟩ := ok
    unfold keysOk at ok
    rw [Bool.and_eq_true] at ok
    obtain ⟨ok1, ok2⟩ := ok
    obtain ⟨kk, hkk⟩ := Option.isSome_iff_exists.mp ok1
    have hlen : kvs.length < sizeLine := sizeLine_lt.mp hlen
    generalize hks : kvs.map (·.1) = ks at hu ok2
    have mono : ∀ b, f.count b ≤ (f ++ fo).count b := fun b => by rw [List.count_append]; omega
    cases kk with
    | inl kk =>
      have := asKK_inl hkk; subst this
      rw [repD_key rk]
      cases hu with
      | k kv =>
        have hl2 : kv.length < sizeLine := by
          have := congrArg List.length hks; simp only [List.length_map] at this; omega
        by_cases hany : (kvs.any fun p => sameK p.1 (keyD kk)) = true
        · rw [if_pos hany] at h
          cases o with
          | sh d =>
            cases h
            cases ro with
            | sh rd =>
              obtain ⟨h1, f', h2, h3⟩ := repl_D (kk := kk) rd hks hv
              refine ⟨H, .dK (putK kv kk w), (kv.map fun p => if p.1 = kk then (p.1, w) else p).map (·.2), f', .inl rfl, .inl ⟨kv, kk, e, rfl, hl2, rfl⟩, trivial, ?_, ?_, fun b => Nat.le_trans (h3 b) (mono b)⟩
              · rw [h1]
                have : putK kv kk w = kv.map fun p => if p.1 = kk then (p.1, w) else p := by unfold putK; rw [any_D hks] at hany; rw [if_pos hany]
                rw [this]
                exact .k _
              · exact h2
          | _ => cases h
        · rw [if_neg hany] at h
          cases h
          have nn : putK kv kk w = kv ++ [(kk, w)] := by unfold putK; rw [any_D hks] at hany; rw [if_neg hany]
          refine ⟨H, .dK (putK kv kk w), kv.map (·.2) ++ [w], f ++ fo, .inl rfl, .inl ⟨kv, kk, e, rfl, hl2, rfl⟩, trivial, ?_, ?_, fun b => Nat.le_refl _⟩
          · rw [nn, List.map_append, hks]
            have := DictU.k (kv ++ [(kk, w)])
            rw [List.map_append, List.map_append] at this
            exact this
          · rw [List.map_append]
            have z := RepOs.cons ro .nil
            rw [List.append_nil] at z
            exact hv.append z
      | t kv =>
        have := all_kindT ok2; subst this
        cases kvs with
        | cons _ _ => simp at hks
        | nil =>
          rw [if_neg (by simp)] at h
          cases h
          cases hv
          refine ⟨_, .dK [(kk, w)], [w], fo, .inr (.inr ⟨e, rfl⟩), .inl ⟨[], kk, upd_same, rfl, (by rw [sizeLine_eq]; decide), by rw [upd_upd]; rfl⟩, trivial, ?_, ?_, fun b => by rw [List.count_append]; omega⟩
          · exact DictU.k [(kk, w)]
          · have z := RepOs.cons ro .nil
            rw [List.append_nil] at z
            exact z
    | inr kk =>
      have := asKK_inr hkk; subst this
      obtain ⟨b, rfl, hb⟩ := repD_keyT rk
      have nb : b ≠ a := fun q => by subst q; rw [e] at hb; cases hb; cases hu
      cases hu with
      | t kv =>
        have hl2 : kv.length < sizeLine := by
          have := congrArg List.length hks; simp only [List.length_map] at this; omega
        by_cases hany : (kvs.any fun p => sameK p.1 (keyT kk)) = true
        · rw [if_pos hany] at h
          cases o with
          | sh d =>
            cases h
            cases ro with
            | sh rd =>
              obtain ⟨h1, f', h2, h3⟩ := repl_T (kk := kk) rd hks hv
              refine ⟨H, .dT (putK kv kk w), (kv.map fun p => if p.1 = kk then (p.1, w) else p).map (·.2), f', .inl rfl, .inr ⟨kv, kk, b, e, rfl, hb, hl2, rfl⟩, trivial, ?_, ?_, fun b => Nat.le_trans (h3 b) (mono b)⟩
              · rw [h1]
                have : putK kv kk w = kv.map fun p => if p.1 = kk then (p.1, w) else p := by unfold putK; rw [any_T hks] at hany; rw [if_pos hany]
                rw [this]
                exact .t _
              · exact h2
          | _ => cases h
        · rw [if_neg hany] at h
          cases h
          have nn : putK kv kk w = kv ++ [(kk, w)] := by unfold putK; rw [any_T hks] at hany; rw [if_neg hany]
          refine ⟨H, .dT (putK kv kk w), kv.map (·.2) ++ [w], f ++ fo, .inl rfl, .inr ⟨kv, kk, b, e, rfl, hb, hl2, rfl⟩, trivial, ?_, ?_, fun b => Nat.le_refl _⟩
          · rw [nn, List.map_append, hks]
            have := DictU.t (kv ++ [(kk, w)])
            rw [List.map_append, List.map_append] at this
            exact this
          · rw [List.map_append]
            have z := RepOs.cons ro .nil
            rw [List.append_nil] at z
            exact hv.append z
      | k kv =>
        have := all_kindK ok2; subst this
        cases kvs with
        | cons _ _ => simp at hks
        | nil =>
          rw [if_neg (by simp)] at h
          cases h
          cases hv
          refine ⟨_, .dT [(kk, w)], [w], fo, .inr (.inl ⟨e, rfl⟩), .inr ⟨[], kk, b, upd_same, rfl, by rw [upd_ne nb]; exact hb, (by rw [sizeLine_eq]; decide), by rw [upd_upd]; rfl⟩, trivial, ?_, ?_, fun b => by rw [List.count_append]; omega⟩
          · exact DictU.t [(kk, w)]
          · have z := RepOs.cons ro .nil
            rw [List.append_nil] at z
            exact z
  · cases h
end
/-! ### name[k] = e -/
def setO : O → D → O → Option O
  | .lst os, .int k, v => (setL os k v).map .lst
  | .dic kvs, k, v => (putKO kvs k v).map .dic
  | _, _, _ => none
def rSetX : TSet := fun o i v H Q => rSetL o i v H Q ∨ ∃ a H0 H', o = .ref a ∧ OtherD H a H0 ∧ DPut H0 a i v H' ∧ Q H'
theorem set_X {X : Cx} (hu : X.A.units + 1 < cLine) : PSet X rSetX := by
  intro pins s σ H o i v ov iv u Q I ro ri rv h
  rcases h with h | ⟨a, H0, H', eo, ot, g, q⟩
  · exact set_list pins s σ H o i v ov iv u Q I ro ri rv h
  · subst eo
    cases (show ov = Value.ref a from ro)
    exact d_setItem hu (ot.inv I) g ri rv fun s' I' => ⟨H', I', q⟩
def M.noex {α : Type} (f : M α) : M α := fun Γ => match f Γ with
  | some (.ok a, Γ') => some (.ok a, Γ')
  | _ => none
def Sf.setIx (i : Nat) (k : D) (v : O) : SF := fun Γ => match Γ[i]? with
  | some (some o) => match setO o k v with
    | some o' => some (.nx, Γ.set i (some o'))
    | none => none
  | _ => none
def Sf.has (i : Nat) (f : SF) : SF := fun Γ => match Γ[i]? with
  | some (some _) => f Γ
  | _ => none
section
variable {X : Cx} {pin : List Nat} {e ek : Expr} {fo : M O} {fk : M D} {x : Str} {p p2 pos : Pos}
theorem ds_setIx (i : Nat) (hu : X.A.units + 1 < cLine) (he : DE X e fo) (hk : DX X ek fk) (hN : X.N[i]? = some x := by rfl) (hv : Vis X.env.scope x := by first | exact Or.inl rfl | exact Or.inr (Or.inl rfl) | exact Or.inr (Or.inr rfl)) (hd : (x == ("__debug__" : Str)) = false := by decide)
    (hcd : (x == ("__classdict__" : Str)) = false := by decide)
    (ha : ∀ v, assign (.Subscript (.Name x p) ek p2) X.env v = (do
      let ov ← holding [v] (eval (.Name x p) X.env)
      let iv ← holding [v, ov] (eval ek X.env)
      standAt p2
      holding [v, ov, iv] (setItem ov iv v)
      release [v, ov, iv] []) := by intro _; rfl)
    (hs : swapsWithSole [.Subscript (.Name x p) ek p2] e pos.line X.env = pure false := by rfl) (hw : swappedStores [.Subscript (.Name x p) ek p2] e X.env = pure none := by rfl)
    (h1 : (assignEach [.Subscript (.Name x p) ek p2] X.env).map (·.2) = [assign (.Subscript (.Name x p) ek p2) X.env] := by rfl) :
    DSt X pin (.Assign [.Subscript (.Name x p) ek p2] e pos) (Sf.of fo fun v => Sf.has i (Sf.of (M.noex fk) fun k => Sf.setIx i k v)) := by
  refine ⟨fun W tk po σ H Γ fp rest Dn S hW => ws (ps_asg pe_w (pg_sub (pe_var hN hv hd hcd) pe_w (set_X hu) ha) hs hw h1) ?_⟩
  refine he.thnS tk S hW fun o Γ1 w H1 f fp1 S1 R1 G1 hW1 => ?_
  have hW1 : WpS X W pin (f ++ fp1) rest H1 σ (Sf.has i (Sf.of (M.noex fk) fun k => Sf.setIx i k o) Γ1) Dn := hW1
  unfold Sf.has at hW1
  split at hW1
  case h_2 => exact hW1.elim
  rename_i o0 e0
  obtain ⟨v0, _, _, _, hσ, _⟩ := S1.env.split e0
  refine ⟨v0, hσ, ?_⟩
  refine hk.run W tk σ H1 Γ1 fp1 (f ++ rest) _ S1 ?_
  unfold Sf.of M.noex at hW1
  match ef : fk Γ1, hW1 with
  | none, hW1 => exact hW1.elim
  | some (.ex ε, Γ2), hW1 => exact hW1.elim
  | some (.ok k, Γ2), hW1 =>
    intro y H2 fo2 fp2 S2 R2 G2
    obtain ⟨rfl, R2⟩ := R2
    have hW1 : WpS X W pin (f ++ fp1) rest H1 σ (Sf.setIx i k o Γ2) Dn := hW1
    have S2 : SOk H2 Γ2 σ fp2 (f ++ rest) := S2
    have R2 : RepD (fp2 ++ (f ++ rest)) H2 k y := R2
    have G2 : Go fp1 H1 fp2 H2 := G2
    have Rw := G2.repO R1 S1.nd
    have Gf : Go (f ++ fp1) H1 (f ++ fp2) H2 := (G2.frame f).congr (fun b h => by simp only [List.mem_append] at h ⊢; exact h.symm) fun b h => .inl (by simp only [List.mem_append] at h ⊢; exact h.symm)
    unfold Sf.setIx at hW1
    split at hW1
    case h_2 => exact hW1.elim
    rename_i o1 e1
    split at hW1
    case h_2 => exact hW1.elim
    rename_i o' es
    cases o1 with
    | lst os =>
      have hkI : ∃ ki, k = .int ki := by
        cases k <;> first | exact ⟨_, rfl⟩ | cases es
      obtain ⟨ki, rfl⟩ := hkI
      obtain ⟨os', e3, e4⟩ := Option.map_eq_some_iff.mp (show (setL os ki o).map O.lst = some o' from es)
      subst e4
      obtain ⟨j, e5, e6⟩ := Option.map_eq_some_iff.mp (show (ixN os.length ki).map (fun j => os.set j o) = some os' from e3)
      subst e6
      obtain ⟨a, fi, f1, f2, k1, k3, k2, k4⟩ := S2.slot e1 rfl
      rw [hσ] at k1; cases k1
      cases R2
      cases k2 with
      | @lst _ _ xs _ hH s =>
        have hj := (ixN_seq e5).2.1
        obtain ⟨v, fo', g1, g2, m1, m2, m3, m4, m5⟩ := s.split (List.getElem?_eq_getElem hj)
        subst m3
        obtain ⟨st, ne, mk, go⟩ := k4 (g1 ++ f ++ g2) [] (fun b => by simp only [List.append_nil, List.count_append]; omega) (.lst (xs.set j w)) trivial
        refine .inl ⟨a, xs, ki, j, rfl, rfl, hH, by rw [← s.length]; exact e5, ?_⟩
        have Rw2 := Rw.cl st a (.lst (xs.set j w)) rfl fun b hb => ne b (by simp only [List.append_nil, List.mem_append]; exact .inl (.inr hb))
        refine hW1 σ _ _ (mk _ (.lst upd_same (m5 _ _ st (fun b u e hb => ?_) _ _ _ Rw2))) (Gf.trans go) fun _ _ => rfl
        rw [upd_ne (ne b (by
          simp only [List.append_nil, List.mem_append] at hb ⊢
          rcases hb with hb | hb
          · exact .inl (.inl hb)
          · exact .inr hb))]
        exact e
    | dic kvs =>
      obtain ⟨kvs', e3, e4⟩ := Option.map_eq_some_iff.mp (show (putKO kvs k o).map O.dic = some o' by cases k <;> exact es)
      subst e4
      obtain ⟨a, fi, f1, f2, k1, k3, k2, k4⟩ := S2.slot e1 rfl
      rw [hσ] at k1; cases k1
      cases k2 with
      | dic hH hu2 s =>
        obtain ⟨H0, u', vs', f', ot, put, own, du, rs, cn⟩ := dictPut hH hu2 s R2 Rw e3
        obtain ⟨st, ne, mk, go⟩ := k4 f' [] (fun b => by rw [List.append_nil]; exact cn b) u' own
        refine .inr ⟨a, H0, upd H2 a u', rfl, ot, put, ?_⟩
        exact hW1 σ _ _ (mk _ (.dic upd_same du (rs.cl st _ _ rfl fun b hb => ne b (by simp [hb])))) (Gf.trans go) fun _ _ => rfl
    | sh d => cases k <;> cases es
    | tup l => cases k <;> cases es
/-- {} -/
theorem de_dnew : DE X (.Dict [] [] pos) (M.pure (.dic [])) := by
  refine ⟨fun W tk σ H Γ fp rest Q S hW => we pe_dnewT fun p hp => ?_⟩
  have S' : SOk H Γ σ fp ([] ++ rest) := S
  have q := newQ_of S hW
  have np := S.fresh hp
  have g := grow_upd (o := .dT []) hp
  refine q _ _ [p] (.dic upd_same (DictU.t []) .nil) (List.nodup_cons.mpr ⟨np, S.nd⟩) (fun a h => ?_) ⟨fun b u e _ => g b u e, fun b h => ?_⟩
  · rcases List.mem_cons.mp h with h | h
    · subst h; exact ⟨_, upd_same, trivial⟩
    · obtain ⟨u, e, o⟩ := S.trk a h
      exact ⟨u, g a u e, o⟩
  · have : b = p := by simpa using h
    subst this; exact .inr hp
end
end DS
namespace DS
open PySem PySem.Spec PyProof.Rows L2
/-! ### sorted -/
def sortOk (xs : List D) : Bool := fitAll 12 xs && (xs.all fun a => xs.all fun b => PySem.W.alike a b) && sortable xs
def sortD (xs : List D) : List D := xs.mergeSort fun a b => !PySem.W.dataLt b a
noncomputable def oSorted : List D → Option O
  | [.list xs] => @ite _ (sortOk xs = true) (Classical.propDecidable _) (some (.lst ((sortD xs).map .sh))) none
  | [.dict kvs] => @ite _ (sortOk (kvs.map (·.1)) = true) (Classical.propDecidable _) (some (.lst ((sortD (kvs.map (·.1))).map .sh))) none
  | _ => none
theorem sortOk_of {xs : List D} (h : sortOk xs = true) : fitAll 12 xs = true ∧ (xs.all fun a => xs.all fun b => PySem.W.alike a b) = true ∧ sortable xs = true := by
  unfold sortOk at h
  rw [Bool.and_eq_true, Bool.and_eq_true] at h
  exact ⟨h.1.1, h.1.2, h.2⟩
theorem depth_mem {x : D} : ∀ {l : List D}, x ∈ l → x.depth ≤ PyData.depthAll l
  | [], h => by cases h
  | a :: l, h => by
    simp only [PyData.depthAll]
    rcases List.mem_cons.mp h with h | h
    · rw [h]; omega
    · have := depth_mem h; omega
theorem keys_repD {A : List Addr} {H : Hp} : ∀ l : List Key, RepDs A H (l.map keyD) (l.map kV)
  | [] => .nil
  | .inl i :: l => .cons (.int i) (keys_repD l)
  | .inr z :: l => .cons (.str z) (keys_repD l)
theorem keys_repT {A : List Addr} {H : Hp} (na : ∀ b ys, H b = some (.tup ys) → b ∉ A) : ∀ {kv : List (List Key × V)} {xs : List (List Key × Addr × Value)}, KT H kv xs → RepDs A H (kv.map fun p => keyT p.1) ((xs.map fun x => x.2.1).map V.ref)
  | _, _, .nil => .nil
  | _, _, .cons h t => .cons (.tup (na _ _ h.2.1) h.2.1 (keys_repD _)) (keys_repT na t)
section
variable {X : Cx}
theorem co_sorted (hc : X.calm = true) (hu : X.A.units + 100 < cLine) : CO X (.builtin "sorted") oSorted := by
  intro pins s σ H vs us Q I r h
  obtain ⟨A, ds, o, rs, nd, tr, e, q⟩ := h
  unfold oSorted at e
  split at e
  · rename_i xs
    split at e <;> cases e
    rename_i z
    have z := sortOk_of z
    obtain ⟨v, rfl, R⟩ := rep1 rs
    have p := fitAll_plain 12 _ z.1
    cases R with
    | lst n1 h1 s1 =>
      obtain ⟨its, rv, hl, hz⟩ := I.list (.inl h1)
      cases Vals.ref1 r
      obtain ⟨bs, e1, e2, e3, e4⟩ := each_pairs s1 rv
      have hlen : bs.length ≤ sizeLine := by
        have := congrArg List.length e1
        rw [List.length_map] at this
        omega
      have hpl : ∀ b ∈ bs, RepD A H b.2 b.1 ∧ b.2.plain = true := fun b hb => ⟨e4 b hb, PySem.W.plain_mem p.1 (by rw [← e2]; exact List.mem_map.mpr ⟨b, hb, rfl⟩)⟩
      refine PySem.W.sorted_data (enc := fun b : V × D => b.2) hl.isList e3 (each_reads I e3 hpl) (by rw [e2]; exact allAlike_of z.2.1) (by rw [e2]; exact sortable_of z.2.2) hlen (fun b hb => ?_) fun out hlo eo => ?_
      · have hm : b.2 ∈ xs := by rw [← e2]; exact List.mem_map.mpr ⟨b, hb, rfl⟩
        have := depth_mem hm
        omega
      · have perm := List.mergeSort_perm bs (PySem.W.dataLe false fun b : V × D => b.2)
        have es : (bs.mergeSort (PySem.W.dataLe false fun b : V × D => b.2)).map (·.2) = sortD xs := by
          unfold sortD
          rw [← e2]
          exact List.map_mergeSort (s := fun a b => !PySem.W.dataLt b a) fun a _ b _ => by rw [PySem.W.dataLe_eq]; rfl
        obtain ⟨ep, he'⟩ := PyProof.Rows.sortedAll_at s.heap its (List.toArray out)
        have vo := each_vals eo
        have lo : ((bs.mergeSort (PySem.W.dataLe false fun b : V × D => b.2)).map (·.1)).length ≤ sizeLine := by
          rw [List.length_map, perm.length_eq]; exact hlen
        refine ⟨.ref _, upd H (s.heap.objs.size + 1) (.lst ((bs.mergeSort (PySem.W.dataLe false fun b : V × D => b.2)).map (·.1))), I.laid (t' := s.toks) (fun _ _ => PyProof.Rows.sortedAll_old) (Nat.le_succ _) ⟨lo, out, ep, vo, he'⟩, rfl, ?_⟩
        refine fin_newO (ds := sortD xs) ?_ nd tr q _ (I.hok.fresh (Nat.le_succ _))
        rw [← es]
        exact reps_map fun b hb => e4 b (perm.mem_iff.mp hb)
  · rename_i kvs
    split at e <;> cases e
    rename_i z
    have z := sortOk_of z
    obtain ⟨v, rfl, R⟩ := rep1 rs
    have p := fitAll_plain 12 _ z.1
    cases R with
    | @dic _ a u _ n1 h1 u1 s1 =>
      cases Vals.ref1 r
      -- what comes behind the collecting
      have fin : ∀ (ws : List V) (acc : Array Value) (h' : Heap) (tk : Nat), (∀ b o, s.heap.get? b = some o → h'.get? b = some o) → Vals ws acc.toList → RepDs A H (kvs.map (·.1)) ws → ws.length ≤ sizeLine →
          ∃ D, D = h'.objs.size ∧ wpAny (model X.prog X.w) X.A.in1.in1 (Builtin.«list.sort» ⟨[.ref h'.objs.size], []⟩) (fun f s' => f = .done (.ret .none) ∧ EP X pins σ Q (.ref D) s') X.xe { s with heap := h'.push (seqObj "list" acc.toList.toArray 0), toks := tk } := by
        intro ws acc h' tk hk rv s1 hz
        refine ⟨_, rfl, ?_⟩
        have I1 : Inv X pins σ H { s with heap := h', toks := tk } := I.kept hk
        obtain ⟨bs, e1, e2, e3, e4⟩ := each_pairs s1 rv
        have hlen : bs.length ≤ sizeLine := by
          have := congrArg List.length e1
          rw [List.length_map] at this
          omega
        have hpl : ∀ b ∈ bs, RepD A H b.2 b.1 ∧ b.2.plain = true := fun b hb => ⟨e4 b hb, PySem.W.plain_mem p.1 (by rw [← e2]; exact List.mem_map.mpr ⟨b, hb, rfl⟩)⟩
        have er := each_reads I1 e3 hpl
        have hoL : (h'.push (seqObj "list" acc.toList.toArray 0)).get? h'.objs.size = some (seqObj "list" acc.toList.toArray 0) := Heap.get?_push_size _ rfl
        have hal : PySem.W.AllAlike (bs.map fun b : V × D => b.2) := by rw [e2]; exact allAlike_of z.2.1
        have er' : PySem.W.EachIs (fun v (b : V × D) => ∃ as, Reads (PySem.W.sortingHeap (h'.push (seqObj "list" acc.toList.toArray 0)) h'.objs.size acc.toList) v b.2 as) acc.toList bs :=
          er.mono fun _ _ ⟨as, r⟩ => ⟨as, PyProof.Rows.Reads.keeps (fun b o e => PySem.W.sortingHeap_old (Nat.ne_of_lt (Heap.lt_size e)) (Heap.get?_push_of_some _ e)) r⟩
        have S := PySem.W.SortsAt.data (prog := X.prog) (w := X.w) (A := X.A.in1.in1) (s := { s with heap := PySem.W.sortingHeap (h'.push (seqObj "list" acc.toList.toArray 0)) h'.objs.size acc.toList, toks := tk }) (PySem.W.each_map (R := fun v d => ∃ as, Reads (PySem.W.sortingHeap (h'.push (seqObj "list" acc.toList.toArray 0)) h'.objs.size acc.toList) v d as) (fun b : V × D => b.2) er') hal (by rw [e2]; exact sortable_of z.2.2) (fun d hd => by
          rw [e2] at hd
          have := depth_mem hd
          have : X.A.in1.in1.units = X.A.units + 2 := rfl
          omega)
        refine PySem.W.list_sort_vals (s := { s with heap := h'.push (seqObj "list" acc.toList.toArray 0), toks := tk }) hoL S (by rw [← rv.length]; exact hz) ⟨rfl, ?_⟩
        have eo := PySem.W.sortVals_data false e3 er' hal
        have perm := List.mergeSort_perm bs (PySem.W.dataLe false fun b : V × D => b.2)
        have es : (bs.mergeSort (PySem.W.dataLe false fun b : V × D => b.2)).map (·.2) = sortD (kvs.map (·.1)) := by
          unfold sortD
          rw [← e2]
          exact List.map_mergeSort (s := fun a b => !PySem.W.dataLt b a) fun a _ b _ => by rw [PySem.W.dataLe_eq]; rfl
        have vo := each_vals eo
        have lo : ((bs.mergeSort (PySem.W.dataLe false fun b : V × D => b.2)).map (·.1)).length ≤ sizeLine := by
          rw [List.length_map, perm.length_eq]; exact hlen
        obtain ⟨ep, he'⟩ := PyProof.Rows.sortedHeap_at (vs := acc.toList) (out := (PySem.W.sortVals (PySem.W.dataKind (PySem.W.sortingHeap (h'.push (seqObj "list" acc.toList.toArray 0)) h'.objs.size acc.toList) (bs.map fun b : V × D => b.2)) false acc.toList acc.toList).toArray) hoL
        refine ⟨.ref h'.objs.size, upd H h'.objs.size (.lst ((bs.mergeSort (PySem.W.dataLe false fun b : V × D => b.2)).map (·.1))), I1.laid (t' := tk) (fun b w ew => ?_) (Nat.le_refl _) ⟨lo, _, ep, vo, he'⟩, rfl, ?_⟩
        · have hb : b < h'.objs.size := Heap.lt_size ew
          rw [PyProof.Rows.sortedHeap_old (Nat.ne_of_lt hb) (by rw [size_push']; exact Nat.lt_succ_of_lt hb)]
          exact Heap.get?_push_of_some _ ew
        · refine fin_newO (ds := sortD (kvs.map (·.1))) ?_ nd tr q _ (I1.hok.fresh (Nat.le_refl _))
          rw [← es]
          exact reps_map fun b hb => e4 b (perm.mem_iff.mp hb)
      generalize hks : kvs.map (·.1) = ks0 at u1 fin
      refine Calls.call_function_entry PyProof.Rows.kind_sorted PyProof.Rows.plain_sorted PyProof.Rows.entry_sorted (PyProof.Rows.args_sorted1 _) ?_
      unfold Builtin.«sorted»
      refine wpAny_bind (m := checkCount "sorted" 1 1 _) (wpAny_pure ?_)
      cases u1 with
      | k kv =>
        obtain ⟨zl, lo, vs, rel, dd⟩ := dk_rd I.hok (.inl h1)
        obtain ⟨ep, hat⟩ := dd.dictAt
        have h16 : vs.length ≤ sizeLine := by rw [← rel.length]; exact zl
        refine wpAny_bind (PySem.W.kdu_collect (A := X.A.in1) (PySem.W.kdl_dict (knd := mixKind X.prog X.w) (kvs := vs) (ep := ep) lo) (I.ok.hd hc) hat h16 fun h' tk acc hk hacc => ?_)
        have hl : acc.toList.length = vs.length := by rw [Array.length_toList, hacc.1]
        have rv := keys_at hl fun j v e => hacc.2 j v (by rw [← Array.getElem?_toList]; exact e)
        have er : RepDs A H (kv.map fun p => keyD p.1) (vs.map fun p => kV p.1) := by
          have q := rel.keys
          have t1 : (vs.map fun p => kV p.1) = (kv.map fun p => p.1).map kV := by rw [q, List.map_map]; rfl
          have t2 : (kv.map fun p => keyD p.1) = (kv.map fun p => p.1).map keyD := by rw [List.map_map]; rfl
          rw [t1, t2]
          exact keys_repD _
        obtain ⟨D, rfl, key⟩ := fin _ acc h' tk hk rv er (by rw [List.length_map]; exact h16)
        refine wpAny_bind (wpAny_newList ?_ (by rw [hl]; exact h16))
        refine wpAny_bind (wpAny_holding (wpAny_call_entry PyProof.Rows.slot_list_sort ⟨_, Heap.get?_push_size _ rfl, rfl⟩ PyProof.Rows.entry_list_sort (wpAny_mono key (fun f s' hf => ?_) fun _ _ e => e) (PyProof.Rows.args_list_sort _)))
        obtain ⟨rfl, hq⟩ := hf
        exact ⟨_, rfl, wpAny_pure ⟨_, rfl, hq⟩⟩
      | t kv =>
        obtain ⟨zl, hs, xs, pr, o, es, ep, ho, hx, hdt, he, hn⟩ := (show ObjOk X.prog X.w H s.heap a (.dT kv) from I.hok a _ h1)
        have l1 : es.size = xs.length := size_of_entries he
        have l2 : kv.length = xs.length := Paired.length pr
        refine wpAny_bind (PySem.W.kdu_collect (A := X.A.in1) (kdl_raw hs hx hdt) (I.ok.hd hc) ho (by omega) fun h' tk acc hk it => ?_)
        have ea : acc.toList = xs.map fun x => Value.ref x.2.1 := by
          have hl : acc.toList.length = xs.length := by rw [Array.length_toList, it.1]; exact l1
          apply List.ext_getElem?
          intro j
          rw [List.getElem?_map]
          cases hj : acc.toList[j]? with
          | none =>
            have h1 := List.getElem?_eq_none_iff.mp hj
            rw [List.getElem?_eq_none (by omega)]
            all_goals rfl
          | some v =>
            obtain ⟨en, hen, hv⟩ := it.2 j v (by rw [← Array.getElem?_toList]; exact hj)
            have qe := entry_at he j
            rw [hen] at qe
            cases hb : xs[j]? with
            | none =>
              rw [hb] at qe
              exact nomatch (show some en = none from qe)
            | some b =>
              rw [hb] at qe
              have e2 : en = entryOfKey (tupleKind (mixKind X.prog X.w)) b := Option.some.inj qe
              rw [hv, e2]
              all_goals rfl
        have rv : Vals ((xs.map fun x => x.2.1).map V.ref) acc.toList := by
          have : acc.toList = (xs.map fun x => x.2.1).map Value.ref := by rw [ea, List.map_map]; all_goals rfl
          rw [this]; exact vals_refs _
        have na : ∀ b ys, H b = some (.tup ys) → b ∉ A := fun b ys e m => by
          obtain ⟨u, e2, ow⟩ := tr b m
          rw [e] at e2; cases e2; exact ow
        obtain ⟨D, rfl, key⟩ := fin _ acc h' tk hk rv (keys_repT na pr) (by rw [List.length_map, List.length_map]; omega)
        have hl : acc.toList.length ≤ sizeLine := by rw [← rv.length, List.length_map, List.length_map]; omega
        refine wpAny_bind (wpAny_newList ?_ hl)
        refine wpAny_bind (wpAny_holding (wpAny_call_entry PyProof.Rows.slot_list_sort ⟨_, Heap.get?_push_size _ rfl, rfl⟩ PyProof.Rows.entry_list_sort (wpAny_mono key (fun f s' hf => ?_) fun _ _ e => e) (PyProof.Rows.args_list_sort _)))
        obtain ⟨rfl, hq⟩ := hf
        exact ⟨_, rfl, wpAny_pure ⟨_, rfl, hq⟩⟩
  · cases e
/-! ### list(..), + and * that make lists -/
def oList : List D → Option O
  | [.list xs] => some (.lst (xs.map .sh))
  | [.tuple xs] => some (.lst (xs.map .sh))
  | _ => none
theorem co_list : CO X (.type "list") oList := by
  intro pins s σ H vs us Q I r h
  obtain ⟨A, ds, o, rs, nd, tr, e, q⟩ := h
  unfold oList at e
  split at e
  · cases e
    obtain ⟨v, rfl, R⟩ := rep1 rs
    cases R with
    | lst n1 h1 s1 => exact call_list_of pins s σ H _ us Q I r ⟨_, _, rfl, .inl (.inl h1), fin_newO s1 nd tr q⟩
  · cases e
    obtain ⟨v, rfl, R⟩ := rep1 rs
    cases R with
    | tup n1 h1 s1 => exact call_list_of pins s σ H _ us Q I r ⟨_, _, rfl, .inr (.inl (.inl h1)), fin_newO s1 nd tr q⟩
  · cases e
def rgD (a b : Int) : List D := (List.range (b - a).toNat).map fun i => .int (a + (i : Nat))
theorem rgD_rep {A : List Addr} {H : Hp} (a b : Int) : RepDs A H (rgD a b) (rgV a b) := by
  have h := RepDs.ints (A := A) (H := H) ((List.range (b - a).toNat).map fun i => a + (i : Nat))
  rw [List.map_map, List.map_map] at h
  exact h
def rgOk (a b : Int) : Bool := decide (-(2 ^ 62) ≤ a ∧ a < 2 ^ 62 ∧ -(2 ^ 62) ≤ b ∧ b < 2 ^ 62 ∧ (b - a).toNat ≤ 2 ^ 24)
theorem rgOk_of {a b : Int} (h : rgOk a b = true) : RgOk a b := by
  unfold rgOk at h
  have h := of_decide_eq_true h
  exact h
noncomputable def oRg1 : D → Option O
  | .int n => @ite _ (rgOk 0 n = true) (Classical.propDecidable _) (some (.lst ((rgD 0 n).map .sh))) none
  | _ => none
noncomputable def oRg2 : D → D → Option O
  | .int a, .int b => @ite _ (rgOk a b = true) (Classical.propDecidable _) (some (.lst ((rgD a b).map .sh))) none
  | _, _ => none
variable {e a b : Expr} {fx gx : M D} {p p2 pos pos1 : Pos}
theorem de_listRg1 (hc : X.calm = true) (hl : X.mg "list" = none) (hm : X.mg "range" = none) (h : DX X a fx) (hg1 : Gl X "list" := by rfl) (hg : Gl X "range" := by rfl) (na : starEach [a] X.env = (false, eval a X.env) :: starEach [] X.env := by rfl)
    (nb : starEach [.Call (.Name "range" p2) [a] [] pos1] X.env = (false, eval (.Call (.Name "range" p2) [a] [] pos1) X.env) :: starEach [] X.env := by rfl) :
    DE X (.Call (.Name "list" p) [.Call (.Name "range" p2) [a] [] pos1] [] pos) (M.bind fx fun d => M.lift (oRg1 d)) := by
  refine ⟨fun W tk σ H Γ fp rest Q S hW => we (pe_listRg hc hg1 hl (prg_1 hg hm pe_w na) nb) ?_⟩
  refine h.thn tk S hW fun d Γ1 x H1 fo fp1 S1 R1 G1 hW1 => ?_
  obtain ⟨rfl, R1⟩ := R1
  obtain ⟨o, e, hW1⟩ := hW1.lift1
  have q := newQ_of S1 hW1
  unfold oRg1 at e
  split at e
  · split at e <;> cases e
    rename_i z
    cases R1
    exact ⟨_, rfl, rgOk_of z, fin_newO (rgD_rep _ _) S1.nd S1.trk q⟩
  · cases e
theorem de_listRg2 (hc : X.calm = true) (hl : X.mg "list" = none) (hm : X.mg "range" = none) (h : DX X a fx) (h2 : DX X b gx) (hg1 : Gl X "list" := by rfl) (hg : Gl X "range" := by rfl) (na : starEach [a, b] X.env = (false, eval a X.env) :: starEach [b] X.env := by rfl)
    (nb : starEach [b] X.env = (false, eval b X.env) :: starEach [] X.env := by rfl) (hp : (backTo pos1 (starEach [b] X.env)).any (·.1) = false := by rfl)
    (nc : starEach [.Call (.Name "range" p2) [a, b] [] pos1] X.env = (false, eval (.Call (.Name "range" p2) [a, b] [] pos1) X.env) :: starEach [] X.env := by rfl) :
    DE X (.Call (.Name "list" p) [.Call (.Name "range" p2) [a, b] [] pos1] [] pos) (M.bind fx fun c => M.bind gx fun d => M.lift (oRg2 c d)) := by
  refine ⟨fun W tk σ H Γ fp rest Q S hW => we (pe_listRg hc hg1 hl (prg_2 hg hm pe_w pe_w na nb hp) nc) ?_⟩
  refine h.thn tk S hW fun d Γ1 x H1 fo fp1 S1 R1 G1 hW1 => ?_
  obtain ⟨rfl, R1⟩ := R1
  refine h2.thn tk S1 hW1 fun d2 Γ2 y H2 fo fp2 S2 R2 G2 hW2 => ?_
  obtain ⟨rfl, R2⟩ := R2
  obtain ⟨o, e, hW2⟩ := hW2.lift1
  have q := newQ_of S2 hW2
  unfold oRg2 at e
  split at e
  · split at e <;> cases e
    rename_i z
    cases R1; cases R2
    exact ⟨_, _, rfl, rfl, rgOk_of z, fin_newO (rgD_rep _ _) S2.nd S2.trk q⟩
  · cases e
def rOO (g : D → D → Option O) : R2 := fun x y H Q => ∃ A dx dy o, RepD A H dx x ∧ RepD A H dy y ∧ A.Nodup ∧ Trk H A ∧ g dx dy = some o ∧ newQ A H o Q
def OpO (X : Cx) (f : Value → Value → Sem Value) (g : D → D → Option O) : Prop := OpR X f (rOO g)
theorem de_bin {op : Operator} {g : D → D → Option O} (ho : OpO X (binaryOp op) g) (h1 : DX X a fx) (h2 : DX X b gx) : DE X (.BinOp a op b pos) (M.bind fx fun x => M.bind gx fun y => M.lift (g x y)) := by
  refine ⟨fun W tk σ H Γ fp rest Q S hW => we (pe_op ho pe_w pe_w) ?_⟩
  refine h1.thn tk S hW fun d Γ1 x H1 fo fp1 S1 R1 G1 hW1 => ?_
  obtain ⟨rfl, R1⟩ := R1
  refine h2.thn tk S1 hW1 fun d2 Γ2 y H2 fo fp2 S2 R2 G2 hW2 => ?_
  obtain ⟨rfl, R2⟩ := R2
  obtain ⟨o, e, hW2⟩ := hW2.lift1
  exact ⟨fp2 ++ rest, d, d2, o, G2.repD R1, R2, S2.nd, S2.trk, e, newQ_of S2 hW2⟩
theorem trk_na {A : List Addr} {H : Hp} (tr : Trk H A) : ∀ b, H b = none → b ∉ A := fun b h m => by
  obtain ⟨u, e, _⟩ := tr b m
  rw [h] at e; cases e
noncomputable def oAdd : D → D → Option O
  | .list xs, .list ys => @ite _ (xs.length + ys.length ≤ 16777216) (Classical.propDecidable _) (some (.lst ((xs ++ ys).map .sh))) none
  | x, y => (dAdd x y).map .sh
theorem oo_add : OpO X (binaryOp .Add) oAdd := by
  intro pins s σ H x y v u Q I rx ry h
  obtain ⟨A, dx, dy, o, r1, r2, nd, tr, e, q⟩ := h
  unfold oAdd at e
  split at e
  · split at e <;> cases e
    rename_i z
    cases r1 with
    | lst n1 h1 s1 =>
      cases r2 with
      | lst n2 h2 s2 =>
        cases rx
        cases ry
        obtain ⟨z1, its, n, r, e1⟩ := Inv.seqL I h1
        obtain ⟨z2, its2, n2, r2, e2⟩ := Inv.seqL I h2
        have l1 := r.length
        have l2 := r2.length
        have m1 := s1.length
        have m2 := s2.length
        have z' := sizeLine_le.mp z
        refine PySem.P.add_list e1 e2 ?_ (by rw [List.size_toArray, List.size_toArray]; omega)
        have ea : its.toArray ++ its2.toArray = (its ++ its2).toArray := by simp
        rw [ea]
        exact ⟨.ref _, _, I.lnew (t' := s.toks) (r.append r2) (by rw [List.length_append]; omega), rfl, fin_newO (s1.append s2) nd tr q _ I.fresh⟩
  · obtain ⟨d, e1, e2⟩ := Option.map_eq_some_iff.mp e
    subst e2
    exact od_add pins s σ H x y v u Q I rx ry ⟨A, _, _, d, r1, r2, e1, trk_na tr, fun v H' k R => newQ_sh nd tr q k R⟩
end
end DS
namespace DS
open PySem PySem.Spec PyProof.Rows L2
section
variable {X : Cx} {e a b : Expr} {es : List Expr} {fx gx : M D} {p p2 pos : Pos} {pin : List Nat}
/-! ### list * int, new -/
noncomputable def oMul : D → D → Option O
  | .list xs, .int k => @ite _ (-(2 ^ 63) ≤ k ∧ k < 2 ^ 63 ∧ xs.length * k.toNat ≤ 16777216) (Classical.propDecidable _) (some (.lst ((List.replicate k.toNat xs).flatten.map .sh))) none
  | x, y => (dMul x y).map .sh
theorem oo_mul : OpO X (binaryOp .Mult) oMul := by
  intro pins s σ H x y v u Q I rx ry h
  obtain ⟨A, dx, dy, o, r1, r2, nd, tr, e, q⟩ := h
  unfold oMul at e
  split at e
  · split at e <;> cases e
    rename_i xs k z
    cases r1 with
    | lst n1 h1 s1 =>
      cases r2
      cases rx
      obtain ⟨t, rfl⟩ := ry
      obtain ⟨zl, its, n, r, e⟩ := Inv.seqL I h1
      have m1 := s1.length
      have hl := r.length
      have z3 := sizeLine_le.mp z.2.2
      have hlen : its.toArray.size * k.toNat ≤ sizeLine := by rw [List.size_toArray, ← hl, ← m1]; exact z3
      have hcap : ¬ its.toArray.size * k.toNat > (2 ^ 63 - 1) / 8 := by
        have : (sizeLine : Nat) ≤ (2 ^ 63 - 1) / 8 := by decide
        omega
      have hfit : ¬ (!Builtin.List.listFitsIndex k) = true := by
        rw [fitsIndex_both (by omega) (by omega)]
        exact Bool.false_ne_true
      have hlong : ¬ Builtin.List.listTooLong (its.toArray.size * k.toNat) = true := by
        rw [notLongL hlen]
        exact Bool.false_ne_true
      have hnew : List.foldl (fun x1 x2 => x1 ++ x2) #[] (List.replicate (if its.toArray.isEmpty = true then 0 else k.toNat) its.toArray) = (List.replicate k.toNat its).flatten.toArray := by
        have f0 : ∀ m : Nat, List.foldl (fun x1 x2 => x1 ++ x2) #[] (List.replicate m its.toArray) = (List.replicate m its).flatten.toArray := fun m => by
          have := foldl_rep its m []
          rw [List.nil_append] at this
          exact this
        rw [f0]
        cases its with
        | nil => simp
        | cons a r' => rw [if_neg (by simp)]
      refine wpAny_binaryOp_repeat_ref (T := "list") (U := "int") (by decide) ⟨_, e, rfl⟩ (fun s' => typeIs_int s' k t) noFill_list_mul F.fills_int_mul F.slot_int_rmul repeat_list F.slot_int_index.lookup
        (call_meets F.slot_int_rmul (typeIs_int s k t) F.entry_int_rmul (F.args_int_rmul_2 _ _) (int___rmul___int_list k t _ its.toArray n)
          ⟨e, rfl, ⟨_, e, rfl⟩, call_meets F.slot_list_mul ⟨_, e, rfl⟩ F.entry_list_mul (F.args_list_mul_2 _ _) (AutoListH.list___mul___list_int_3 _ its.toArray n k t hfit hcap hlong) ⟨e, ?_⟩⟩)
      rw [hnew]
      exact ⟨.ref _, _, I.lnew (t' := s.toks) (r.rep k.toNat) (by rw [PyProof.Rows.lm_len_rep_flat, Nat.mul_comm, hl, ← List.size_toArray]; exact hlen), rfl, fin_newO (s1.rep _) nd tr q _ I.fresh⟩
  · obtain ⟨d, e1, e2⟩ := Option.map_eq_some_iff.mp e
    subst e2
    exact od_mul pins s σ H x y v u Q I rx ry ⟨A, _, _, d, r1, r2, e1, trk_na tr, fun v H' k R => newQ_sh nd tr q k R⟩
/-! ### len of all -/
noncomputable def bLenX : List D → Option D
  | [.dict kvs] => some (.int kvs.length)
  | l => bLen l
theorem cd_lenX : CD X (.builtin "len") bLenX := by
  intro pins s σ H vs us Q I r h
  obtain ⟨A, ds, d, rs, e, na, q⟩ := h
  unfold bLenX at e
  split at e
  · rename_i kvs
    cases e
    obtain ⟨v, rfl, R⟩ := rep1 rs
    cases R with
    | @dic _ a u _ n1 h1 u1 s1 =>
      cases Vals.ref1 r
      generalize hks : kvs.map (·.1) = ks0 at u1
      have hkl : kvs.length = ks0.length := by rw [← hks, List.length_map]
      cases u1 with
      | k kv =>
        refine d_len I (.inl h1) fun t s' I' => ⟨.int kvs.length, H, I', ⟨t, ?_⟩, q _ _ (fun _ _ h => h) (.int _)⟩
        rw [hkl, List.length_map]
      | t kv =>
        obtain ⟨z, hd, xs, rel, o, es, ep, h1', h2, h3, h4, h5⟩ := (show ObjOk X.prog X.w H s.heap a (.dT kv) from I.hok a _ h1)
        have e2 : kv.length = xs.length := Paired.length rel
        obtain ⟨z', hd', xs', rel', dd⟩ := dt_rd I.hok (.inl h1)
        have e3 : kv.length = xs'.length := Paired.length rel'
        refine call_len_dictH hd' dd (by rw [← e3]; rw [sizeLine_eq] at z; omega) ⟨.int kvs.length, H, I.tok _, ⟨s.toks + 1, ?_⟩, q _ _ (fun _ _ h => h) (.int _)⟩
        rw [hkl, List.length_map, e3]
  · exact cd_len pins s σ H vs us Q I r ⟨A, ds, d, rs, e, na, q⟩
/-! ### texts -/
def asStrs : List D → Option (List Str)
  | [] => some []
  | .str z :: ds => (asStrs ds).map (z :: ·)
  | _ :: _ => none
theorem asStrs_of : ∀ {ds : List D} {zs : List Str}, asStrs ds = some zs → ds = zs.map .str
  | [], _, h => by cases h; rfl
  | .str z :: ds, zs, h => by
    obtain ⟨l, h1, h2⟩ := Option.map_eq_some_iff.mp (show (asStrs ds).map (z :: ·) = some zs from h)
    subst h2
    rw [List.map_cons, ← asStrs_of h1]
  | .none :: _, _, h => by cases h
  | .bool _ :: _, _, h => by cases h
  | .int _ :: _, _, h => by cases h
  | .list _ :: _, _, h => by cases h
  | .tuple _ :: _, _, h => by cases h
  | .dict _ :: _, _, h => by cases h
theorem repDs_strs {A : List Addr} {H : Hp} : ∀ {zs : List Str} {vs : List V}, RepDs A H (zs.map PyData.str) vs → vs = zs.map V.str
  | [], _, .nil => rfl
  | z :: zs, _, .cons r s => by cases r; rw [repDs_strs s]; rfl
noncomputable def joinOk (a : Str) (zs : List Str) : Option D := @ite _ ((zs.map (·.length)).sum + zs.length * a.length ≤ 16777216) (Classical.propDecidable _) (some (.str (Txt.join a zs))) none
noncomputable def dJoin (a : Str) : D → Option D
  | .list ds => (asStrs ds).bind (joinOk a)
  | .tuple ds => (asStrs ds).bind (joinOk a)
  | _ => none
def asS : D → Option Str
  | .str z => some z
  | _ => none
theorem dx_join (h1 : DX X a fx) (h2 : DX X e gx) (hs : starEach [e] X.env = [(false, eval e X.env)] := by rfl) (hbase : attributeBase a "join" X.env (eval a X.env) = eval a X.env := by rfl) (hline : (p2.endLine == pos.line) = true := by rfl) :
    DX X (.Call (.Attribute a "join" p2) [e] [] pos) (M.bind fx fun x => M.bind (M.lift (asS x)) fun z => M.bind gx fun y => M.lift (dJoin z y)) := by
  refine ⟨fun W tk σ H Γ fp rest Q S hW => we (pe_join pe_w pe_w hs hbase hline) ?_⟩
  refine h1.thn tk S hW fun d Γ1 x H1 fo fp1 S1 R1 G1 hW1 => ?_
  obtain ⟨rfl, R1⟩ := R1
  obtain ⟨z, ez, hW1⟩ := hW1.lift
  cases d <;> cases ez
  cases R1
  refine ⟨⟨z, rfl⟩, ?_⟩
  refine h2.thn tk S1 hW1 fun d2 Γ2 y H2 fo fp2 S2 R2 G2 hW2 => ?_
  obtain ⟨rfl, R2⟩ := R2
  obtain ⟨o, e, hW2⟩ := hW2.lift1
  have q := fin_shared S2 hW2
  cases R2 with
  | lst n h s =>
    obtain ⟨zs, e1, e2⟩ := Option.bind_eq_some_iff.mp e
    unfold joinOk at e2
    split at e2
    · rename_i hz
      cases e2
      rw [asStrs_of e1] at s
      rw [repDs_strs s] at h
      exact ⟨_, _, zs, rfl, rfl, .inl (.inl h), hz, q _ _ (fun _ _ h => h) (.str _)⟩
    · cases e2
  | tup n h s =>
    obtain ⟨zs, e1, e2⟩ := Option.bind_eq_some_iff.mp e
    unfold joinOk at e2
    split at e2
    · rename_i hz
      cases e2
      rw [asStrs_of e1] at s
      rw [repDs_strs s] at h
      exact ⟨_, _, zs, rfl, rfl, .inr (.inl (.inl h)), hz, q _ _ (fun _ _ h => h) (.str _)⟩
    · cases e2
  | _ => cases e
/-! ### f-strings -/
noncomputable def dFmt : D → Option D
  | .str y => @ite _ (y.length ≤ 16777216) (Classical.propDecidable _) (some (.str y)) none
  | .int i => @ite _ (i.natAbs.log2 < 1920) (Classical.propDecidable _) (some (.str (Str.ofString (toString i)))) none
  | _ => none
theorem dx_fmt (h : DX X a fx) : DX X (.FormattedValue a (-1) none pos) (M.bind fx fun d => M.lift (dFmt d)) := by
  refine ⟨fun W tk σ H Γ fp rest Q S hW => we (pe_fmt pe_w) ?_⟩
  refine h.thn tk S hW fun d Γ1 x H1 fo fp1 S1 R1 G1 hW1 => ?_
  obtain ⟨rfl, R1⟩ := R1
  obtain ⟨o, e, hW1⟩ := hW1.lift1
  have q := fin_shared S1 hW1
  cases R1 with
  | str y =>
    unfold dFmt at e
    simp only at e
    split at e <;> cases e
    rename_i hz
    exact .inl ⟨y, rfl, sizeLine_le.mp hz, q _ _ (fun _ _ h => h) (.str _)⟩
  | int i =>
    unfold dFmt at e
    simp only at e
    split at e <;> cases e
    rename_i hz
    exact .inr ⟨i, rfl, hz, q _ _ (fun _ _ h => h) (.str _)⟩
  | _ => cases e
def repS : Rp Str Str := fun _ _ b c fo => fo = [] ∧ b = c
abbrev DJ (X : Cx) (es : List Expr) (f : Str → M Str) : Prop := ∀ acc, Jd X (fun σ H Q => tJs (es.map (wE X)) acc σ H Q) repS (f acc)
theorem pj_w : ∀ es : List Expr, PJ X es (es.map (wE X))
  | [] => .nil
  | _ :: r => .cons pe_w (pj_w r)
noncomputable def catS (acc : Str) : D → Option Str
  | .str y => @ite _ ((acc ++ y).length ≤ 16777216) (Classical.propDecidable _) (some (acc ++ y)) none
  | _ => none
theorem dj_nil : DJ X [] (fun acc => M.pure acc) := fun acc => ⟨fun W tk σ H Γ fp rest Q S hW => hW.done (fo := []) S ⟨rfl, rfl⟩ (Go.refl _ _)⟩
theorem dj_cons {gs : Str → M Str} (h : DX X e fx) (hr : DJ X es gs) : DJ X (e :: es) (fun acc => M.bind fx fun d => M.bind (M.lift (catS acc d)) gs) := fun acc => by
  refine ⟨fun W tk σ H Γ fp rest Q S hW => ?_⟩
  refine h.thn tk S hW fun d Γ1 x H1 fo fp1 S1 R1 G1 hW1 => ?_
  obtain ⟨rfl, R1⟩ := R1
  obtain ⟨y, ey, hW1⟩ := hW1.lift
  cases R1 with
  | str z =>
    unfold catS at ey
    simp only at ey
    split at ey <;> cases ey
    rename_i hz
    exact ⟨z, rfl, sizeLine_le.mp hz, (hr _).run W tk σ H1 Γ1 fp1 rest Q S1 hW1⟩
  | _ => cases ey
theorem dx_joined {v1 v2 : Expr} {gs : Str → M Str} (h : DJ X (v1 :: v2 :: es) gs) : DX X (.JoinedStr (v1 :: v2 :: es) pos) (M.bind (gs Str.empty) fun out => M.pure (.str out)) := by
  refine ⟨fun W tk σ H Γ fp rest Q S hW => we (pe_joined (pj_w _)) ?_⟩
  refine (h Str.empty).thn tk S hW fun d Γ1 x H1 fo fp1 S1 R1 G1 hW1 => ?_
  obtain ⟨rfl, rfl⟩ := R1
  exact hW1.done (fo := []) S1 ⟨rfl, .str _⟩ (Go.refl _ _)
/-! ### try, nothing refused -/
def Sf.noex (f : SF) : SF := fun Γ => match f Γ with
  | some (.ex _, _) => none
  | r => r
theorem ds_try_thru {body : List Stmt} {h₀ : ExceptHandler} {hs : List ExceptHandler} {f : SF} (hb : DSs X.nox pin body f) : DSt X pin (.Try body (h₀ :: hs) [] [] pos) (Sf.noex f) := by
  refine ⟨fun W tk po σ H Γ fp rest Dn S hW => ws (t := wSs X.nox body) (ps_try_thru0 (X := X) pss_w) ?_⟩
  refine hb.run (fun _ _ _ _ => False) takes0 PassesOwn.never σ H Γ fp rest Dn S ?_
  unfold Sf.noex at hW
  match e : f Γ, hW with
  | none, hW => exact hW.elim
  | some (.nx, _), hW => exact hW
  | some (.bk, _), hW => exact hW
  | some (.ct, _), hW => exact hW
  | some (.rt o, _), hW => exact hW
  | some (.ex ε, _), hW => exact hW.elim
/-! ### name = [.. for ..] on one line -/
end
end DS
namespace DS
open PySem PySem.Spec PyProof.Rows L2
/-! ### the end of a law -/
/-- no list stands in the written part -/
def noList (K : PySem.W.Frag) : Bool := K.all fun p => match p.2.cls with
  | .type T => T != "list"
  | _ => true
theorem noList_of {K : PySem.W.Frag} (h : noList K = true) {a : Addr} {o : Obj} (e : K.lookup a = some o) (hc : o.cls = .type "list") : False := by
  have go : ∀ l : List (Addr × Obj), (l.all fun p => match p.2.cls with | .type T => T != "list" | _ => true) = true → List.lookup a l = some o → False := by
    intro l
    induction l with
    | nil => intro _ e; cases e
    | cons p l ih =>
      intro h e
      rw [List.all_cons, Bool.and_eq_true] at h
      rw [List.lookup_cons] at e
      split at e
      · cases e
        have := h.1
        rw [hc] at this
        exact absurd this (by decide)
      · exact ih h.2 e
  exact go K h e
theorem law_callG {P : Program} {w : World} {K : PySem.W.Frag} {mg mb : Str → Option Value} {k : Nat} {fa a : Addr} {fd : FuncData} {x : Str} {G : List D → Option (Out O)} {s₁ : Shared} {vs : List Value} {ns : List Int}
    (KX : K.In s₁.heap) (hns : s₁.heap.Ns mainGlobals mg) (hb : s₁.heap.Ns builtinsNs mb) (hbb : ∀ x : Str, x ≠ "__name__" → mb x = bootBuiltins x) (hlim : s₁.heap.NoLimit) (hg : s₁.gens = #[])
    (ha : s₁.heap.get? a = some { cls := .type "list", data := .seq vs.toArray }) (hi : IntsAre vs ns) (hl : ns.length ≤ sizeLine) (hr : Room k callerA) (hk : K.lookup a = none)
    (F : ∀ base : Heap, K.In base → base.Ns mainGlobals mg → FnG P w K mg base k fa fd [x] (spF mg 1 G)) (hbind : ∀ (s : Shared) (u : Value), BindsTo s fd ⟨[u], []⟩ [(x, u)])
    (hG : G [.list (ns.map .int)] = some (.ok (.sh (.bool true)))) :
    codeAny (model P w) callerA (.call (.ref fa) ⟨[.ref a], []⟩) (fun r s' => r = .ok (.ret (.bool true)) ∧ OldK s₁.heap s'.heap ∧ s'.os = s₁.os ∧ AllBare s'.gens) s₁ := by
  have rv := vals_ints hi
  let u0 : HO := .frz { cls := .type "list", data := .seq vs.toArray } (.lst (ns.map V.int))
  let H : Hp := upd (fun _ => none) a u0
  have Ha : H a = some u0 := upd_same
  have Hn : ∀ b, b ≠ a → H b = none := fun b n => upd_ne n
  have only : ∀ b u, H b = some u → b = a ∧ u = u0 := fun b u e => by
    by_cases q : b = a
    · subst q; rw [Ha] at e; exact ⟨rfl, (Option.some.inj e).symm⟩
    · rw [Hn b q] at e; cases e
  have hok : HOk P w H s₁.heap := fun b u e => by
    obtain ⟨rfl, rfl⟩ := only b u e
    exact ⟨ha, by rw [List.length_map]; exact hl, vs, _, rv, ha⟩
  have base_of : ∀ {b : Addr} {o : Obj}, s₁.heap.get? b = some o → H b = none → (hidT s₁.heap H).get? b = some o := fun e n => hidT_get e n
  have noA : ∀ {b : Addr} {o : Obj} {es : Array DictEntry} {ep : Nat}, s₁.heap.get? b = some o → o.data = .dict es ep → H b = none := fun {b o es ep} e d => by
    refine Hn b fun q => ?_
    subst q
    rw [ha] at e; cases e
    cases d
  have nsK : ∀ {b : Addr} {m : Str → Option Value}, s₁.heap.Ns b m → (hidT s₁.heap H).Ns b m := fun ⟨o, es, ep, e, d, r⟩ => ⟨o, es, ep, base_of e (noA e d), d, r⟩
  have hKb : K.In (hidT s₁.heap H) := fun b o e => base_of (KX b o e) (Hn b fun q => by subst q; rw [hk] at e; cases e)
  have hM : Mod K mg (hidT s₁.heap H) := ⟨hKb, nsK hns, ⟨mb, nsK hb, hbb⟩, let ⟨mc, h1, h2⟩ := hlim; ⟨mc, nsK h1, h2⟩⟩
  have e0 : Env0 P w K mg (hidT s₁.heap H) callerA [] s₁ H := ⟨rfl, hM, fun b o e => of_hidT e, Nat.le_of_eq (hidT_size _ _), trivial, fun b hb => absurd (show b ∈ ([] : List Addr) from hb) (by simp), hok, .of_eq hg⟩
  have sp : spF mg 1 G [.ref a] H (fun v _ => v = .bl true) fun _ _ _ => False := by
    refine ⟨[.list (ns.map .int)], [], rfl, .cons (.lst (by simp) (.inr ⟨_, Ha⟩) (RepDs.ints ns)) .nil, List.nodup_nil, (show Trk H [] from fun b h => absurd h (by simp)), ?_⟩
    rw [hG]
    intro v H' fo R _ _ _
    cases R with
    | sh R => cases R; rfl
  refine codeAny_mono ((F _ hKb (nsK hns)).run callerA [] s₁ H ⟨[.ref a], []⟩ [.ref a] [.ref a] _ _ hr rfl e0 (hbind s₁ (.ref a)) (.cons rfl .nil) sp) fun r s' h => ?_
  cases r with
  | error e => obtain ⟨_, _, _, _, _, _, _, _, _, _, _, _, h⟩ := h; exact h.elim
  | ok fl =>
    cases fl with
    | next => exact False.elim h
    | brk => exact False.elim h
    | cont => exact False.elim h
    | ret u =>
      obtain ⟨v, H', os, bare, un, hok', r', q⟩ := h
      have q' : v = .bl true := q
      subst q'
      obtain rfl : u = Value.bool true := r'
      refine ⟨rfl, OldK.of_keep fun b o e => ?_, os, bare⟩
      by_cases eb : b = a
      · subst eb
        have z2 := un.frzs b _ _ Ha
        obtain ⟨e2, _⟩ := hok' b _ z2
        rw [ha] at e; cases e
        exact e2
      · exact un.keep b o e (Hn b eb) (by intro z; exact absurd (show b ∈ ([] : List Addr) from z) (by simp)) (by simp)
/-- from a law's promise to its row -/
theorem walk_ofG {l : PySem.W.OpenLaw} {n k : Nat} {q : Program} {loose : List Str} {XP : (Str → Option Value) → Heap → Prop} {YP : World → Heap → Prop} {d : DefRec} {K : Params → PySem.W.Frag} {G : List D → Option (Out O)} {x : Str}
    (hn : l.most = some n) (hn2 : n ≤ sizeLine) (hdf : d.params.defaults = []) (hr : Room k callerA)
    (hY : ∀ (w : World) (h : Heap), YP w h → (K w.params).In h)
    (hN : ∀ w : World, noList (K w.params) = true)
    (F : ∀ (w : World) (mg : Str → Option Value) (fa : Addr) (h : Heap), (K w.params).In h → h.Ns mainGlobals mg → mg d.name = some (.ref fa) →
      ∃ fd : FuncData, (∀ (s : Shared) (u : Value), BindsTo s fd ⟨[u], []⟩ [(x, u)]) ∧
        ∀ base : Heap, (K w.params).In base → base.Ns mainGlobals mg → FnG l.prog w (K w.params) mg base k fa fd [x] (spF mg 1 G))
    (hG : ∀ ns : List Int, ns.length ≤ n → G [.list (ns.map .int)] = some (.ok (.sh (.bool true)))) :
    PySem.W.WalkO q loose XP YP l.row.toRowW d [] (fun f vs => PySem.call f vs) := by
  refine Att.attach_call hn hdf fun w s₀ s₁ mg mb fa o pm cd doc a vs ns G' Y ho hd hcd hmg hobj hints hlen hg => ?_
  have KX := hY w _ Y
  obtain ⟨fd, hb, hF⟩ := F w mg fa _ KX G'.T.g hmg
  have hk : (K w.params).lookup a = none := by
    cases e : (K w.params).lookup a with
    | none => rfl
    | some o' =>
      have e2 := KX a o' e
      rw [hobj] at e2
      cases e2
      exact (noList_of (hN w) e rfl).elim
  exact law_callG KX G'.T.g G'.T.b G'.T.builtins G'.T.nolimit hg hobj hints (Nat.le_trans hlen hn2) hr hk hF hb (hG ns hlen)
end DS
namespace DS
open PySem PySem.Spec PyProof.Rows L2
theorem hu100 {k : Nat} {A : Around} (hr : Room k A) : A.units + 100 < cLine := by have := hr.un; omega
theorem hu1 {k : Nat} {A : Around} (hr : Room k A) : A.units + 1 < cLine := by have := hr.un; omega
section
variable {P : Program} {w : World} {K : PySem.W.Frag} {mg : Str → Option Value} {base : Heap} {k n : Nat} {f : Addr} {fd : FuncData} {ps : List Str}
theorem FnG.impF {F G : List D → Option (Out O)} (h : FnG P w K mg base k f fd ps (spF mg n F)) (i : ∀ ds r, G ds = some r → F ds = some r) : FnG P w K mg base k f fd ps (spF mg n G) := by
  refine h.imp fun vs H Q E s => ?_
  obtain ⟨ds, A, h1, h2, h3, h4, h5⟩ := s
  refine ⟨ds, A, h1, h2, h3, h4, ?_⟩
  cases e : G ds with
  | none => rw [e] at h5; exact h5.elim
  | some r => rw [i ds r e]; rw [e] at h5; exact h5
theorem FnG.never : FnG P w K mg base k f fd ps (spF mg n fun _ => none) :=
  ⟨fun vs H Q E ⟨_, _, _, _, _, _, h⟩ => h.elim, fun A outer s H args us vs Q E hr hg he hb hv ⟨_, _, _, _, _, _, h⟩ => h.elim⟩
theorem FnG.impM {F G : O → List D → Option (O × O)} (h : FnG P w K mg base k f fd ps (spM mg n F)) (i : ∀ o ds r, G o ds = some r → F o ds = some r) : FnG P w K mg base k f fd ps (spM mg n G) := by
  refine h.imp fun vs H Q E s => ?_
  obtain ⟨o, ds, v0, vs', fp, A, h1, h2, h3, h4, h5, h6, h7⟩ := s
  refine ⟨o, ds, v0, vs', fp, A, h1, h2, h3, h4, h5, h6, ?_⟩
  cases e : G o ds with
  | none => rw [e] at h7; exact h7.elim
  | some r => rw [i o ds r e]; rw [e] at h7; exact h7
end
section
variable {X : Cx} {a b elt tg iter : Expr} {ifs : List Expr} {scope : Scope} {own : List (Str × Nat)} {pos : Pos} {fx gx : M D} {fi : M (List D)} {gt : D → Env → Option Env} {ft : M Bool} {fe : M O}
theorem dx_ixX (hu : X.A.units + 1 < cLine) (h1 : DX X a fx) (h2 : DX X b gx) (hs : PlainIx b := by exact fun _ _ => rfl) : DX X (.Subscript a b pos) (M.bind fx fun x => M.bind gx fun y => M.lift (dIx x y)) := by
  refine ⟨fun W tk σ H Γ fp rest Q S hW => we (pe_ix (od_ixD hu) pe_w pe_w hs) ?_⟩
  refine h1.thn tk S hW fun dx Γ1 x H1 fo fp1 S1 R1 G1 hW1 => ?_
  obtain ⟨rfl, R1⟩ := R1
  refine h2.thn tk S1 hW1 fun dy Γ2 y H2 fo fp2 S2 R2 G2 hW2 => ?_
  obtain ⟨rfl, R2⟩ := R2
  obtain ⟨d, e, hW2⟩ := hW2.lift1
  exact ⟨fp2 ++ rest, dx, dy, d, G2.repD R1, R2, e, fun b hb => S2.fresh hb, fin_shared S2 hW2⟩
/-- name = [..] on one line, shared from here on -/
theorem ds_setLcX (i : Nat) {pin : List Nat} {y : Str} {py spos : Pos} (hc : X.calm = true) (hN : X.N.Nodup) (hi : DI X tg iter fi) (ok : BlkOk X.N X.env.scope scope own)
    (hg : ∀ (s : Shared) (H : Hp) (C : Addr) (cl : List (Str × Addr)) (fp : List Addr), DG (X.blk s H scope (compEnvC scope cl C X.env) fp) (wipeR (own.map (·.2))) tg gt)
    (ht : ∀ (s : Shared) (H : Hp) (C : Addr) (cl : List (Str × Addr)) (fp : List Addr), DTs (X.blk s H scope (compEnvC scope cl C X.env) fp) ifs ft)
    (he : ∀ (s : Shared) (H : Hp) (C : Addr) (cl : List (Str × Addr)) (fp : List Addr), DE (X.blk s H scope (compEnvC scope cl C X.env) fp) elt fe)
    (hy : X.N[i]? = some y := by rfl) (hyl : X.env.scope.names.lookup y = some .local := by rfl) (hp : pin.contains i = false := by rfl)
    (hsw : swapsWith (.ListComp elt [⟨tg, iter, ifs, 0⟩] scope pos) (some (.Name y py)) spos.line X.env = pure true := by rfl)
    (hs : ∀ x, foldedSetIterable iter X.env x = pure x := by intro _; rfl) : DSt X pin (.Assign [.Name y py] (.ListComp elt [⟨tg, iter, ifs, 0⟩] scope pos) spos) (Sf.of (compM (own.map (·.2)) fi gt ft fe) fun o => Sf.putO i (.sh o.erase)) := by
  refine ⟨fun W tk po σ H Γ fp rest Dn S hW => (ds_setLc (pin := pin) i hc hN hi ok hg ht he hy hyl hp hsw hs).run W tk po σ H Γ fp rest Dn S ?_⟩
  revert hW
  unfold Sf.of
  cases e : compM (own.map (·.2)) fi gt ft fe Γ with
  | none => intro hW; exact hW
  | some r =>
    obtain ⟨r, Γ1⟩ := r
    cases r with
    | ex ε => intro hW; exact hW
    | ok o =>
      intro hW
      have hW : WpS X W pin fp rest H σ (Sf.putO i (.sh o.erase) Γ1) Dn := hW
      show WpS X W pin fp rest H σ (Sf.putO i o Γ1) Dn
      unfold Sf.putO at hW ⊢
      split at hW
      · rename_i hl
        rw [if_pos hl]
        intro σ' H' fp' S' G p
        have hl' : i < (Γ1.set i (some o)).length := by rw [List.length_set]; exact hl
        have eo : (Γ1.set i (some o))[i]? = some (some o) := by rw [List.getElem?_set_self hl]
        obtain ⟨v, fp2, h1, S2, R2, G2⟩ := S'.froze eo
        rw [List.set_set] at S2
        exact hW σ' H' fp2 S2 (G.trans G2) p
      · exact hW.elim
theorem de_compV {vs : List Nat} (hc : X.calm = true) (hN : X.N.Nodup) (hi : DI X tg iter fi) (ok : BlkOk X.N X.env.scope scope own)
    (hg : ∀ (s : Shared) (H : Hp) (C : Addr) (cl : List (Str × Addr)) (fp : List Addr), DG (X.blk s H scope (compEnvC scope cl C X.env) fp) (wipeR vs) tg gt)
    (ht : ∀ (s : Shared) (H : Hp) (C : Addr) (cl : List (Str × Addr)) (fp : List Addr), DTs (X.blk s H scope (compEnvC scope cl C X.env) fp) ifs ft)
    (he : ∀ (s : Shared) (H : Hp) (C : Addr) (cl : List (Str × Addr)) (fp : List Addr), DE (X.blk s H scope (compEnvC scope cl C X.env) fp) elt fe)
    (hs : ∀ x, foldedSetIterable iter X.env x = pure x := by intro _; rfl) (hvs : own.map (·.2) = vs := by rfl) : DE X (.ListComp elt [⟨tg, iter, ifs, 0⟩] scope pos) (compM vs fi gt ft fe) := by
  subst hvs
  exact de_comp hc hN hi ok hg ht he hs
theorem ds_setLcV (i : Nat) {vs pin : List Nat} {y : Str} {py spos : Pos} (hc : X.calm = true) (hN : X.N.Nodup) (hi : DI X tg iter fi) (ok : BlkOk X.N X.env.scope scope own)
    (hg : ∀ (s : Shared) (H : Hp) (C : Addr) (cl : List (Str × Addr)) (fp : List Addr), DG (X.blk s H scope (compEnvC scope cl C X.env) fp) (wipeR vs) tg gt)
    (ht : ∀ (s : Shared) (H : Hp) (C : Addr) (cl : List (Str × Addr)) (fp : List Addr), DTs (X.blk s H scope (compEnvC scope cl C X.env) fp) ifs ft)
    (he : ∀ (s : Shared) (H : Hp) (C : Addr) (cl : List (Str × Addr)) (fp : List Addr), DE (X.blk s H scope (compEnvC scope cl C X.env) fp) elt fe)
    (hy : X.N[i]? = some y := by rfl) (hyl : X.env.scope.names.lookup y = some .local := by rfl) (hp : pin.contains i = false := by rfl)
    (hsw : swapsWith (.ListComp elt [⟨tg, iter, ifs, 0⟩] scope pos) (some (.Name y py)) spos.line X.env = pure true := by rfl)
    (hs : ∀ x, foldedSetIterable iter X.env x = pure x := by intro _; rfl) (hvs : own.map (·.2) = vs := by rfl) : DSt X pin (.Assign [.Name y py] (.ListComp elt [⟨tg, iter, ifs, 0⟩] scope pos) spos) (Sf.of (compM vs fi gt ft fe) (Sf.putO i)) := by
  subst hvs
  exact ds_setLc i hc hN hi ok hg ht he hy hyl hp hsw hs
theorem ds_setLcW (i : Nat) {vs pin : List Nat} {y : Str} {py spos : Pos} (hc : X.calm = true) (hN : X.N.Nodup) (hi : DI X tg iter fi) (ok : BlkOk X.N X.env.scope scope own)
    (hg : ∀ (s : Shared) (H : Hp) (C : Addr) (cl : List (Str × Addr)) (fp : List Addr), DG (X.blk s H scope (compEnvC scope cl C X.env) fp) (wipeR vs) tg gt)
    (ht : ∀ (s : Shared) (H : Hp) (C : Addr) (cl : List (Str × Addr)) (fp : List Addr), DTs (X.blk s H scope (compEnvC scope cl C X.env) fp) ifs ft)
    (he : ∀ (s : Shared) (H : Hp) (C : Addr) (cl : List (Str × Addr)) (fp : List Addr), DE (X.blk s H scope (compEnvC scope cl C X.env) fp) elt fe)
    (hy : X.N[i]? = some y := by rfl) (hyl : X.env.scope.names.lookup y = some .local := by rfl) (hp : pin.contains i = false := by rfl)
    (hsw : swapsWith (.ListComp elt [⟨tg, iter, ifs, 0⟩] scope pos) (some (.Name y py)) spos.line X.env = pure true := by rfl)
    (hs : ∀ x, foldedSetIterable iter X.env x = pure x := by intro _; rfl) (hvs : own.map (·.2) = vs := by rfl) : DSt X pin (.Assign [.Name y py] (.ListComp elt [⟨tg, iter, ifs, 0⟩] scope pos) spos) (Sf.of (compM vs fi gt ft fe) fun o => Sf.putO i (.sh o.erase)) := by
  subst hvs
  exact ds_setLcX i hc hN hi ok hg ht he hy hyl hp hsw hs
end
end DS
namespace DS
open PySem PySem.Spec PyProof.Rows L2
/-! ### the denotations, run -/
section
variable {α β γ : Type} {Γ : Env}
@[simp] theorem run_pure (a : α) : M.pure a Γ = some (.ok a, Γ) := Eq.trans rfl rfl
@[simp] theorem run_bind (x : M α) (f : α → M β) : M.bind x f Γ = match x Γ with | none => none | some (.ex e, Γ1) => some (.ex e, Γ1) | some (.ok a, Γ1) => f a Γ1 := Eq.trans rfl rfl
@[simp] theorem run_lift (a : α) : M.lift (some a) Γ = some (.ok a, Γ) := Eq.trans rfl rfl
@[simp] theorem run_liftN : M.lift (none : Option α) Γ = none := Eq.trans rfl rfl
@[simp] theorem run_map (f : α → β) (x : M α) : M.map f x Γ = match x Γ with | none => none | some (.ex e, Γ1) => some (.ex e, Γ1) | some (.ok a, Γ1) => some (.ok (f a), Γ1) := Eq.trans rfl rfl
@[simp] theorem run_rd (i : Nat) : M.rd i Γ = match Γ[i]? with | some (some (.sh d)) => some (.ok d, Γ) | some (some o) => some (.ok o.erase, Γ.set i (some (.sh o.erase))) | _ => none := Eq.trans rfl rfl
@[simp] theorem run_mv (i : Nat) : M.mv i Γ = match Γ[i]? with | some (some (.sh d)) => some (.ok (.sh d), Γ) | some (some o) => some (.ok o, Γ.set i none) | _ => none := Eq.trans rfl rfl
@[simp] theorem run_isL (i : Nat) (m : M α) : M.isL i m Γ = match Γ[i]? with | some (some (.lst _)) => m Γ | _ => none := Eq.trans rfl rfl
@[simp] theorem run_chL (i : Nat) (F : List O → Option (O × List O)) : M.chL i F Γ = match Γ[i]? with | some (some (.lst os)) => (match F os with | some (r, os') => some (.ok r, Γ.set i (some (.lst os'))) | none => none) | _ => none := Eq.trans rfl rfl
@[simp] theorem run_call (F : List D → Option (Out O)) (ds : List D) : M.call F ds Γ = match F ds with | none => none | some r => some (r, Γ) := Eq.trans rfl rfl
@[simp] theorem run_pureS (f : M D) : M.pureS f Γ = match f (er Γ) with | some (.ok d, _) => (if scal d = true then some (.ok d, Γ) else none) | some (.ex ε, _) => (if exScal ε = true then some (.ex ε, Γ) else none) | none => none := by
  unfold M.pureS; exact Eq.trans rfl rfl
@[simp] theorem run_pureT (f : M Bool) : M.pureT f Γ = match f (er Γ) with | some (.ok d, _) => some (.ok d, Γ) | some (.ex ε, _) => (if exScal ε = true then some (.ex ε, Γ) else none) | none => none := by
  unfold M.pureT; exact Eq.trans rfl rfl
@[simp] theorem run_noexM (f : M α) : M.noex f Γ = match f Γ with | some (.ok a, Γ') => some (.ok a, Γ') | _ => none := Eq.trans rfl rfl
@[simp] theorem er_nil : er [] = [] := Eq.trans rfl rfl
@[simp] theorem er_none (Γ : Env) : er (none :: Γ) = none :: er Γ := Eq.trans rfl rfl
@[simp] theorem er_some (o : O) (Γ : Env) : er (some o :: Γ) = some (.sh o.erase) :: er Γ := Eq.trans rfl rfl
@[simp] theorem run_of (x : M α) (k : α → SF) : Sf.of x k Γ = match x Γ with | none => none | some (.ex e, Γ1) => some (.ex e, Γ1) | some (.ok a, Γ1) => k a Γ1 := Eq.trans rfl rfl
@[simp] theorem run_seq (f g : SF) : Sf.seq f g Γ = match f Γ with | some (.nx, Γ1) => g Γ1 | r => r := by
  unfold Sf.seq; exact Eq.trans rfl rfl
@[simp] theorem run_nx : Sf.nx Γ = some (.nx, Γ) := Eq.trans rfl rfl
@[simp] theorem run_bk : Sf.bk Γ = some (.bk, Γ) := Eq.trans rfl rfl
@[simp] theorem run_ct : Sf.ct Γ = some (.ct, Γ) := Eq.trans rfl rfl
@[simp] theorem run_rt (o : O) : Sf.rt o Γ = some (.rt o, Γ) := Eq.trans rfl rfl
@[simp] theorem run_never : Sf.never Γ = none := Eq.trans rfl rfl
@[simp] theorem run_putO (i : Nat) (o : O) : Sf.putO i o Γ = if i < Γ.length then some (.nx, Γ.set i (some o)) else none := Eq.trans rfl rfl
@[simp] theorem run_puts (g : Env → Option Env) : Sf.puts g Γ = match g Γ with | none => none | some Γ' => some (.nx, Γ') := Eq.trans rfl rfl
@[simp] theorem run_ite (c : M Bool) (f g : SF) : Sf.ite c f g Γ = match c Γ with | none => none | some (.ex e, Γ1) => some (.ex e, Γ1) | some (.ok k, Γ1) => if k = true then f Γ1 else g Γ1 := by
  unfold Sf.ite Sf.of
  cases c Γ with
  | none => rfl
  | some r =>
    obtain ⟨r, Γ1⟩ := r
    cases r with
    | ex e => rfl
    | ok k => cases k <;> rfl
@[simp] theorem run_has (i : Nat) (f : SF) : Sf.has i f Γ = match Γ[i]? with | some (some _) => f Γ | _ => none := Eq.trans rfl rfl
@[simp] theorem run_setIx (i : Nat) (k : D) (v : O) : Sf.setIx i k v Γ = match Γ[i]? with | some (some o) => (match setO o k v with | some o' => some (.nx, Γ.set i (some o')) | none => none) | _ => none := Eq.trans rfl rfl
@[simp] theorem run_noexS (f : SF) : Sf.noex f Γ = match f Γ with | some (.ex _, _) => none | r => r := by
  unfold Sf.noex; exact Eq.trans rfl rfl
@[simp] theorem run_gPut (i : Nat) (d : D) : gPut i d Γ = if i < Γ.length then some (Γ.set i (some (.sh d))) else none := Eq.trans rfl rfl
@[simp] theorem run_gNil : gNilD [] Γ = some Γ := Eq.trans rfl rfl
@[simp] theorem run_gCons (g : D → Env → Option Env) (gs : List D → Env → Option Env) (d : D) (ds : List D) : gConsD g gs (d :: ds) Γ = (g d Γ).bind (gs ds) := Eq.trans rfl rfl
@[simp] theorem run_gTup (n : Nat) (gs : List D → Env → Option Env) (ds : List D) : gTupD n gs (.tuple ds) Γ = if ds.length = n then gs ds Γ else none := Eq.trans rfl rfl
theorem run_F (n : Nat) (f : SF) (ds : List D) : runF n f ds = match f (env0 n ds) with | some (.rt o, _) => some (.ok o) | some (.nx, _) => some (.ok (.sh .none)) | some (.ex ε, _) => some (.ex ε) | _ => none := by
  unfold runF; exact Eq.trans rfl rfl
theorem run_Mm (n : Nat) (f : SF) (o : O) (ds : List D) : runM n f o ds = match f (envM n o ds) with | some (.rt r, Γ) => (match Γ[0]? with | some (some o') => some (r, o') | _ => none) | some (.nx, Γ) => (match Γ[0]? with | some (some o') => some (.sh .none, o') | _ => none) | _ => none := by
  unfold runM; exact Eq.trans rfl rfl
theorem run_comp (vs : List Nat) (fi : M (List D)) (g : D → Env → Option Env) (ifs : M Bool) (elt : M O) : compM vs fi g ifs elt Γ = match fi Γ with | none => none | some (.ex e, Γ1) => some (.ex e, Γ1) | some (.ok ds, Γ1) => (match compL vs g ifs elt ds [] (wipeE Γ1 vs) with | none => none | some (l, Γ') => some (.ok (.lst l), backE Γ1 Γ' vs)) := by
  unfold compM M.bind
  cases fi Γ with
  | none => rfl
  | some r =>
    obtain ⟨r, Γ1⟩ := r
    cases r with
    | ex e => rfl
    | ok ds =>
      simp only <;> (cases compL vs g ifs elt ds [] (wipeE Γ1 vs) <;> rfl)
theorem run_ifF (c : Prop) [Decidable c] (f g : SF) : (if c then f else g) Γ = if c then f Γ else g Γ := by split <;> rfl
theorem run_ifM (c : Prop) [Decidable c] (f g : M α) : (if c then f else g) Γ = if c then f Γ else g Γ := by split <;> rfl
end
/-! ### data, in part -/
@[simp] theorem x_addI (i j : Int) : dAdd (.int i) (.int j) = some (.int (i + j)) := Eq.trans rfl rfl
@[simp] theorem x_subI (i j : Int) : dSub (.int i) (.int j) = some (.int (i - j)) := Eq.trans rfl rfl
@[simp] theorem x_neg (i : Int) : dNeg (.int i) = some (.int (-i)) := Eq.trans rfl rfl
@[simp] theorem x_asB (b : Bool) : asB (.bool b) = some b := Eq.trans rfl rfl
@[simp] theorem x_asI (i : Int) : asI (.int i) = some i := Eq.trans rfl rfl
@[simp] theorem x_asPart (i : Int) : asPart (.int i) = some (some i) := Eq.trans rfl rfl
@[simp] theorem x_asS (z : Str) : asS (.str z) = some z := Eq.trans rfl rfl
@[simp] theorem x_asSeqL (l : List D) : asSeq (.list l) = some l := Eq.trans rfl rfl
@[simp] theorem x_asSeqT (l : List D) : asSeq (.tuple l) = some l := Eq.trans rfl rfl
@[simp] theorem x_enum (l : List D) : enumD [.list l] = some (enumFrom 0 l) := Eq.trans rfl rfl
theorem x_mod {i j : Int} (h : 0 < j) : dMod (.int i) (.int j) = some (.int (i % j)) := if_pos h
theorem x_div {i j : Int} (h : 0 < j) (h2 : j < 1073741824) : dDiv (.int i) (.int j) = some (.int (i / j)) := if_pos ⟨h, .inl h2⟩
theorem x_mul {i j : Int} (h1 : -(2 ^ 64) < i) (h2 : i < 2 ^ 64) : dMul (.int i) (.int j) = some (.int (i * j)) := by
  have h : mulOk i j = true := by
    unfold mulOk
    rw [Bool.or_eq_true, Bool.or_eq_true]
    exact .inl (.inl (decide_eq_true ⟨h1, h2⟩))
  exact if_pos h
theorem x_mul' {i j : Int} (h1 : -(2 ^ 64) < j) (h2 : j < 2 ^ 64) : dMul (.int i) (.int j) = some (.int (i * j)) := by
  have h : mulOk i j = true := by
    unfold mulOk
    rw [Bool.or_eq_true, Bool.or_eq_true]
    exact .inl (.inr (decide_eq_true ⟨h1, h2⟩))
  exact if_pos h
@[simp] theorem x_ltI (i j : Int) : dLt (.int i) (.int j) = some (.bool (decide (i < j))) := by
  unfold dLt; rw [if_pos (by rfl), PySem.W.dataLt_int]
@[simp] theorem x_gtI (i j : Int) : dGt (.int i) (.int j) = some (.bool (decide (j < i))) := by
  unfold dGt; rw [if_pos (by rfl), PySem.W.dataLt_int]
@[simp] theorem x_leI (i j : Int) : dLe (.int i) (.int j) = some (.bool (decide (i ≤ j))) := by
  unfold dLe; rw [if_pos (by rfl), PySem.W.dataLt_int]
  congr 2
  by_cases h : i ≤ j
  · rw [decide_eq_true h, decide_eq_false (by omega)]; rfl
  · rw [decide_eq_false h, decide_eq_true (by omega)]; rfl
@[simp] theorem x_geI (i j : Int) : dGe (.int i) (.int j) = some (.bool (decide (j ≤ i))) := by
  unfold dGe; rw [if_pos (by rfl), PySem.W.dataLt_int]
  congr 2
  by_cases h : j ≤ i
  · rw [decide_eq_true h, decide_eq_false (by omega)]; rfl
  · rw [decide_eq_false h, decide_eq_true (by omega)]; rfl
@[simp] theorem x_eqI (i j : Int) : dEq (.int i) (.int j) = some (.bool (decide (i = j))) := by
  unfold dEq; rw [if_pos ⟨rfl, rfl⟩]
  congr 2
@[simp] theorem x_neI (i j : Int) : dNe (.int i) (.int j) = some (.bool (!decide (i = j))) := by
  unfold dNe; rw [if_pos ⟨rfl, rfl⟩]
  congr 2
@[simp] theorem x_maxI (i j : Int) : bMax [.int i, .int j] = some (.int (max i j)) := Eq.trans rfl rfl
@[simp] theorem x_minI (i j : Int) : bMin [.int i, .int j] = some (.int (min i j)) := Eq.trans rfl rfl
@[simp] theorem x_lenL (l : List D) : bLenX [.list l] = some (.int l.length) := Eq.trans rfl rfl
@[simp] theorem x_lenT (l : List D) : bLenX [.tuple l] = some (.int l.length) := Eq.trans rfl rfl
theorem x_ixL {l : List D} {i : Int} {d : D} (h : atI l i = some d) : dIx (.list l) (.int i) = some d := h
theorem x_ixT {l : List D} {i : Int} {d : D} (h : atI l i = some d) : dIx (.tuple l) (.int i) = some d := h
theorem atI_n {α : Type} {l : List α} {i : Nat} {d : α} (h : l[i]? = some d) : atI l (i : Int) = some d := by
  unfold atI ixN
  have := (List.getElem?_eq_some_iff.mp h).1
  rw [if_pos (by omega), if_pos (by omega)]
  exact h
@[simp] theorem x_tup0 (a b : D) : dIx (.tuple [a, b]) (.int 0) = some a := Eq.trans rfl rfl
@[simp] theorem x_tup1 (a b : D) : dIx (.tuple [a, b]) (.int 1) = some b := Eq.trans rfl rfl
@[simp] theorem x_mkT (l : List O) (h : l.length ≤ 16777216) : mkT l = some (.tup l) := if_pos h
theorem x_mkL {l : List O} (h : l.length ≤ 16777216) : mkL l = some (.lst l) := if_pos h
theorem x_mkDL {l : List D} (h : l.length ≤ 16777216) : mkDL l = some (.list l) := if_pos h
theorem x_mkDT {l : List D} (h : l.length ≤ 16777216) : mkDT l = some (.tuple l) := if_pos h
theorem x_append {os : List O} {y : O} (h : os.length < 16777216) : opAppend y os = some (.sh .none, os ++ [y]) := if_pos h
theorem x_range1 {j : Int} (h0 : -(2 ^ 62) ≤ j) (h : j < 2 ^ 62) : range1D [.int j] = some ((List.range j.toNat).map fun i => .int (0 + (i : Nat))) := if_pos (decide_eq_true ⟨h0, h⟩)
/-! ### walks by an invariant -/
theorem forS_inv {g : D → Env → Option Env} {body : SF} (I : List D → Env → Prop) (step : ∀ d ds Γ, I (d :: ds) Γ → ∃ Γ1 Γ2, g d Γ = some Γ1 ∧ (body Γ1 = some (.nx, Γ2) ∨ body Γ1 = some (.ct, Γ2)) ∧ I ds Γ2) :
    ∀ (ds : List D) (Γ : Env), I ds Γ → ∃ Γ', forS g body ds Γ = some (.nx, Γ') ∧ I [] Γ'
  | [], Γ, h => ⟨Γ, rfl, h⟩
  | d :: ds, Γ, h => by
    obtain ⟨Γ1, Γ2, h1, h2, h3⟩ := step d ds Γ h
    obtain ⟨Γ', h4, h5⟩ := forS_inv I step ds Γ2 h3
    refine ⟨Γ', ?_, h5⟩
    unfold forS
    rw [h1]
    rcases h2 with h2 | h2 <;> (simp only [h2]; exact h4)
theorem compL_inv {vs : List Nat} {g : D → Env → Option Env} {ifs : M Bool} {elt : M O} (I : List D → List O → Env → Prop)
    (step : ∀ d ds acc Γ, I (d :: ds) acc Γ → acc.length < 16777216 ∧ ∃ Γ1 Γ2 k, g d Γ = some Γ1 ∧ ifs Γ1 = some (.ok k, Γ2) ∧ ((k = false ∧ I ds acc (wipeE Γ2 vs)) ∨ (k = true ∧ ∃ o Γ3, elt Γ2 = some (.ok o, Γ3) ∧ I ds (acc ++ [o]) (wipeE Γ3 vs)))) :
    ∀ (ds : List D) (acc : List O) (Γ : Env), I ds acc Γ → ∃ l Γ', compL vs g ifs elt ds acc Γ = some (l, Γ') ∧ I [] l Γ'
  | [], acc, Γ, h => ⟨acc, Γ, rfl, h⟩
  | d :: ds, acc, Γ, h => by
    obtain ⟨hl, Γ1, Γ2, k, h1, h2, h3⟩ := step d ds acc Γ h
    unfold compL
    simp only [h1, h2]
    rcases h3 with ⟨rfl, h3⟩ | ⟨rfl, o, Γ3, h4, h5⟩
    · exact compL_inv I step ds acc _ h3
    · simp only [h4, if_pos hl]
      exact compL_inv I step ds _ _ h5
end DS
namespace DS
open PySem PySem.Spec PyProof.Rows L2
/-! ### expressions that read alone -/
def hideO : Option O → Option O
  | some (.sh d) => some (.sh d)
  | _ => none
def hide (Γ : Env) : Env := Γ.map hideO
def M.hid (f : M D) : M D := fun Γ => match f (hide Γ) with
  | some (.ok d, _) => some (.ok d, Γ)
  | _ => none
theorem repEnv_hide {A : List Addr} {H : Hp} : ∀ {Γ : Env} {σ : St} {fp : List Addr}, RepEnv A H Γ σ fp → RepEnv A H (hide Γ) σ []
  | _, _, _, .nil => .nil
  | _, _, _, .no r => .no (repEnv_hide r)
  | _, _, _, @RepEnv.yes _ _ Γ σ fp fo o v r s => by
    cases r with
    | sh rd => exact RepEnv.yes (fo := []) (.sh rd) (repEnv_hide s)
    | lst _ _ => exact .no (repEnv_hide s)
    | tup _ _ _ => exact .no (repEnv_hide s)
    | dic _ _ _ => exact .no (repEnv_hide s)
theorem SOk.hide {H : Hp} {Γ : Env} {σ : St} {fp rest : List Addr} (S : SOk H Γ σ fp rest) : SOk H (hide Γ) σ [] (fp ++ rest) := ⟨repEnv_hide S.env, S.nd, S.trk⟩
/-- the state stays, what is told is shared -/
structure Still (X : Cx) (e : Expr) (f : M D) : Prop where
  run : ∀ W, Takes X W → ∀ σ H Γ fp rest (Q : V → Hp → Prop) d Γ', SOk H Γ σ fp rest → f Γ = some (.ok d, Γ') →
    (∀ v H', (∀ b u, H b = some u → H' b = some u) → RepD (fp ++ rest) H' d v → Q v H') → wE X e σ H Q
  same : ∀ Γ d Γ', f Γ = some (.ok d, Γ') → Γ' = Γ
  noex : ∀ Γ ε Γ', f Γ ≠ some (.ex ε, Γ')
section
variable {X : Cx} {e : Expr} {f : M D}
theorem still_hid (h : DX X e f) : Still X e (M.hid f) := by
  refine ⟨fun W tk σ H Γ fp rest Q d Γ' S hf q => ?_, fun Γ d Γ' hf => ?_, fun Γ ε Γ' hf => ?_⟩
  · refine h.run W tk σ H (hide Γ) [] (fp ++ rest) Q S.hide ?_
    unfold M.hid at hf
    split at hf
    · rename_i d' Γ2 e'
      cases hf
      rw [e']
      intro v H' fo fp' S' R G
      obtain ⟨rfl, R⟩ := R
      exact q v H' (fun b u e => G.keep b u e (by simp)) (R.congr fun b hb => by simp only [List.mem_append] at hb ⊢; simp [hb])
    · cases hf
  · unfold M.hid at hf
    split at hf
    · cases hf; rfl
    · cases hf
  · unfold M.hid at hf
    split at hf <;> cases hf
theorem still_pure (h : DX X e f) : Still X e (M.noex (M.pureS f)) := by
  have key : ∀ Γ d Γ', M.noex (M.pureS f) Γ = some (.ok d, Γ') → Γ' = Γ ∧ scal d = true ∧ ∃ Γ2, f (er Γ) = some (.ok d, Γ2) := fun Γ d Γ' hf => by
    unfold M.noex at hf
    split at hf
    · rename_i a Γ1 e1
      cases hf
      unfold M.pureS at e1
      split at e1
      · rename_i d' Γ2 e'
        split at e1
        · rename_i hs
          cases e1
          exact ⟨rfl, hs, _, e'⟩
        · cases e1
      · split at e1 <;> cases e1
      · cases e1
    · cases hf
  refine ⟨fun W tk σ H Γ fp rest Q d Γ' S hf q => ?_, fun Γ d Γ' hf => (key Γ d Γ' hf).1, fun Γ ε Γ' hf => ?_⟩
  · obtain ⟨_, hs, Γ2, e'⟩ := key Γ d Γ' hf
    refine h.run W tk σ H (er Γ) [] [] Q S.er ?_
    rw [e']
    intro v H' fo fp' S' R G
    obtain ⟨rfl, R⟩ := R
    exact q v H' (fun b u e => G.keep b u e (by simp)) (scal_rep hs R)
  · unfold M.noex at hf
    split at hf <;> cases hf
end
/-! ### an owned thing within a slot's thing -/
/-- the place of a key -/
def idxK (ks : List D) (k : D) : Option Nat := ks.findIdx? fun x => sameK x k
def atO : O → D → Option O
  | .lst os, .int j => (ixN os.length j).bind fun n => os[n]?
  | .tup os, .int j => (ixN os.length j).bind fun n => os[n]?
  | .dic kvs, k => if keysOk (kvs.map (·.1)) k = true then (idxK (kvs.map (·.1)) k).bind fun n => (kvs.map (·.2))[n]? else none
  | _, _ => none
def setAt : O → D → O → Option O
  | .lst os, .int j, o => (ixN os.length j).map fun n => .lst (os.set n o)
  | .tup os, .int j, o => (ixN os.length j).map fun n => .tup (os.set n o)
  | .dic kvs, k, o => (idxK (kvs.map (·.1)) k).map fun n => .dic ((kvs.map (·.1)).zip ((kvs.map (·.2)).set n o))
  | _, _, _ => none
theorem setAt_dic (kvs : List (D × O)) (k : D) (o : O) : setAt (.dic kvs) k o = (idxK (kvs.map (·.1)) k).map fun n => .dic ((kvs.map (·.1)).zip ((kvs.map (·.2)).set n o)) := by cases k <;> rfl
theorem SOk.core {H : Hp} {Γ : Env} {σ : St} {fp fo rest f1 f2 fi : List Addr} {b : Addr} {i : Nat} (S : SOk H Γ σ fp (fo ++ rest)) (hfp : fp = f1 ++ (b :: fi) ++ f2) (wr : O → O)
    (h5 : ∀ (A' : List Addr) (H' : Hp), (∀ c u, H c = some u → c ∉ fp ++ (fo ++ rest) → H' c = some u ∧ c ∉ A') → (∀ c u, H c = some u → c ∈ f1 ++ f2 → H' c = some u) →
      (∀ c ∈ f1 ++ f2, c ∈ A') → ∀ o' fo', RepO A' H' o' (.ref b) fo' → RepEnv A' H' (Γ.set i (some (wr o'))) σ (f1 ++ fo' ++ f2)) :
    ∀ fi' fo', (∀ c, (fi' ++ fo').count c ≤ (fi ++ fo).count c) → ∀ u, Ownable u →
        (∀ c w, H c = some w → c ∉ fp ++ (fo ++ rest) → upd H b u c = some w ∧ c ∉ f1 ++ (b :: fi') ++ f2 ++ (fo' ++ rest)) ∧ (∀ c ∈ fi' ++ fo', c ≠ b) ∧
        (∀ o', RepO (f1 ++ (b :: fi') ++ f2 ++ (fo' ++ rest)) (upd H b u) o' (.ref b) (b :: fi') → SOk (upd H b u) (Γ.set i (some (wr o'))) σ (f1 ++ (b :: fi') ++ f2) (fo' ++ rest)) ∧
        Go (fo ++ fp) H (fo' ++ (f1 ++ (b :: fi') ++ f2)) (upd H b u) := by
  intro fi' fo' hc u hu
  subst hfp
  have cle : ∀ c, (f1 ++ (b :: fi') ++ f2 ++ (fo' ++ rest)).count c ≤ (f1 ++ (b :: fi) ++ f2 ++ (fo ++ rest)).count c := fun c => by
    have := hc c
    simp only [List.count_append, List.count_cons] at this ⊢
    omega
  have nd' := cnt_nodup S.nd cle
  have ne : ∀ c ∈ fi' ++ fo', c ≠ b := fun c hb ea => by
    subst ea
    have h1 := List.nodup_iff_count.mp nd' c
    have h2 : 0 < (fi' ++ fo').count c := List.count_pos_iff.mpr hb
    simp only [List.count_append, List.count_cons, beq_self_eq_true, if_true] at h1 h2
    omega
  have st : ∀ c w, H c = some w → c ∉ f1 ++ (b :: fi) ++ f2 ++ (fo ++ rest) → upd H b u c = some w ∧ c ∉ f1 ++ (b :: fi') ++ f2 ++ (fo' ++ rest) := fun c w ew n =>
    ⟨by rw [upd_ne (fun q => n (by rw [q]; simp))]; exact ew, fun q => n (cnt_mem cle q)⟩
  have go : Go (fo ++ (f1 ++ (b :: fi) ++ f2)) H (fo' ++ (f1 ++ (b :: fi') ++ f2)) (upd H b u) := by
    refine ⟨fun c w ew n => by rw [upd_ne (fun q => n (by rw [q]; simp))]; exact ew, fun c hb => .inl ?_⟩
    refine cnt_mem (l := fo ++ (f1 ++ (b :: fi) ++ f2)) (m := fo' ++ (f1 ++ (b :: fi') ++ f2)) (fun c => ?_) hb
    have := hc c
    simp only [List.count_append, List.count_cons] at this ⊢
    omega
  refine ⟨st, ne, fun o' R' => ⟨?_, nd', fun c hb => ?_⟩, go⟩
  · exact h5 (f1 ++ (b :: fi') ++ f2 ++ (fo' ++ rest)) (upd H b u) st (fun c w ew hb => by
      rw [upd_ne fun q => ?_]
      · exact ew
      · subst q
        have h1 := List.nodup_iff_count.mp S.nd c
        have h2 : 0 < (f1 ++ f2).count c := List.count_pos_iff.mpr hb
        simp only [List.count_append, List.count_cons, beq_self_eq_true, if_true] at h1 h2
        omega) (fun c hc => by
          simp only [List.mem_append] at hc ⊢
          rcases hc with h | h
          · exact .inl (.inl (.inl h))
          · exact .inl (.inr h)) o' (b :: fi') R'
  · by_cases eb : c = b
    · subst eb; exact ⟨u, upd_same, hu⟩
    · obtain ⟨w, ew, ow⟩ := S.trk c (cnt_mem cle hb)
      exact ⟨w, by rw [upd_ne eb]; exact ew, ow⟩
theorem set_self' {α : Type} {l : List α} {i : Nat} {a : α} (h : l[i]? = some a) : l.set i a = l := by
  obtain ⟨h1, h2⟩ := List.getElem?_eq_some_iff.mp h
  rw [← h2, List.set_getElem_self]
/-- reading within: a list's, a tuple's, a dict's item -/
def rIxO (X : Cx) : R2 := fun x y H Q => rIxL X.K x y H Q ∨ rIxT X.K x y H Q ∨ ∃ a H0 v, x = .ref a ∧ OtherD H a H0 ∧ DGet H0 a y (some v) ∧ Q v H
theorem ix_O {X : Cx} (hu : X.A.units + 1 < cLine) : IxR X (rIxO X) := by
  refine ix_list.or (ix_tup.or ?_)
  intro value slice pins s σ H x y v u Q I rx ry h hs
  obtain ⟨a, H0, w, rfl, ot, g, q⟩ := h
  cases rx
  have I0 := ot.inv I
  exact tail_any (ops := [.ref _, u]) (dict_typeIs I0 g) PySem.F.slot_dict_getitem.lookup (d_getItem hu I0 g ry fun w' s3 I3 rw' => ⟨w, H, ot.back I3, rw', q⟩) hs
/-- how the thing within is found, and changed -/
structure Elem (X : Cx) (H : Hp) (Γ : Env) (σ : St) (fp fo rest : List Addr) (i : Nat) (o : O) (k : D) (o1 : O) (a0 b : Addr) (fi f1 f2 : List Addr) : Prop where
  at' : σ[i]? = some (some (.ref a0))
  fp' : fp = f1 ++ (b :: fi) ++ f2
  rep : RepO (fp ++ (fo ++ rest)) H o1 (.ref b) (b :: fi)
  get : ∀ (A : List Addr) (y : V) (Q : VK), RepD A H k y → Q (.ref b) H → rIxO X (.ref a0) y H Q
  put : ∀ o2, setAt o k o1 = some o2 → ∀ (wr : O → O), (∀ o', setAt o k o' = some (wr o')) →
    ∀ fi' fo', (∀ c, (fi' ++ fo').count c ≤ (fi ++ fo).count c) → ∀ u, Ownable u →
        (∀ c w, H c = some w → c ∉ fp ++ (fo ++ rest) → upd H b u c = some w ∧ c ∉ f1 ++ (b :: fi') ++ f2 ++ (fo' ++ rest)) ∧ (∀ c ∈ fi' ++ fo', c ≠ b) ∧
        (∀ o', RepO (f1 ++ (b :: fi') ++ f2 ++ (fo' ++ rest)) (upd H b u) o' (.ref b) (b :: fi') → SOk (upd H b u) (Γ.set i (some (wr o'))) σ (f1 ++ (b :: fi') ++ f2) (fo' ++ rest)) ∧
        Go (fo ++ fp) H (fo' ++ (f1 ++ (b :: fi') ++ f2)) (upd H b u)
theorem node_ref {A : List Addr} {H : Hp} {o : O} {v : V} {f : List Addr} (r : RepO A H o v f) (h : o.node = true) : ∃ b fi, v = .ref b ∧ f = b :: fi := by
  cases r with
  | sh _ => cases h
  | lst _ _ => exact ⟨_, _, rfl, rfl⟩
  | tup _ _ _ => cases h
  | dic _ _ _ => exact ⟨_, _, rfl, rfl⟩
theorem valV_idx {κ : Type} [DecidableEq κ] (enc : κ → D) (kk : κ) (hs : ∀ a, sameK (enc a) (enc kk) = decide (a = kk)) : ∀ (kv : List (κ × V)) (j : Nat) (v : V), idxK (kv.map fun p => enc p.1) (enc kk) = some j → (kv.map (·.2))[j]? = some v → valV kv kk = some v
  | [], _, _, h, _ => by simp [idxK] at h
  | p :: kv, j, v, h, e => by
    unfold idxK at h
    rw [List.map_cons, List.findIdx?_cons, hs] at h
    by_cases q : p.1 = kk
    · rw [if_pos (decide_eq_true q)] at h
      cases h
      rw [valV_pos q]
      simpa using e
    · rw [if_neg (by simpa using q)] at h
      obtain ⟨j', h1, rfl⟩ := Option.map_eq_some_iff.mp h
      rw [valV_neg q]
      exact valV_idx enc kk hs kv j' v h1 (by simpa using e)
theorem dictAt {A : List Addr} {H : Hp} {a : Addr} {ks : List D} {k : D} {y v : V} {u : HO} {vs : List V} {j : Nat} (e : H a = some u) (hu : DictU u ks vs) (rk : RepD A H k y) (ok : keysOk ks k = true) (hj : idxK ks k = some j) (hv : vs[j]? = some v) :
    ∃ H0, OtherD H a H0 ∧ DGet H0 a y (some v) := by
  unfold keysOk at ok
  rw [Bool.and_eq_true] at ok
  obtain ⟨ok1, ok2⟩ := ok
  obtain ⟨kk, hkk⟩ := Option.isSome_iff_exists.mp ok1
  cases kk with
  | inl kk =>
    have := asKK_inl hkk; subst this
    rw [repD_key rk]
    cases hu with
    | k kv => exact ⟨H, .inl rfl, .inl ⟨kv, kk, .inl e, rfl, (valV_idx keyD kk (fun a => sameK_D a kk) kv j v hj hv).symm⟩⟩
    | t kv =>
      have := all_kindT ok2; subst this
      simp at hv
  | inr kk =>
    have := asKK_inr hkk; subst this
    obtain ⟨b, rfl, hb⟩ := repD_keyT rk
    cases hu with
    | t kv => exact ⟨H, .inl rfl, .inr ⟨kv, kk, b, .inl e, rfl, hb, (valV_idx keyT kk (fun a => sameK_T a kk) kv j v hj hv).symm⟩⟩
    | k kv =>
      have := all_kindK ok2; subst this
      simp at hv
theorem zip_fst {α β : Type} : ∀ (l : List (α × β)) (m : List β), m.length = l.length → ((l.map (·.1)).zip m).map (·.1) = l.map (·.1)
  | [], [], _ => rfl
  | [], _ :: _, h => by simp at h
  | _ :: _, [], h => by simp at h
  | p :: l, b :: m, h => by
    rw [List.map_cons, List.zip_cons_cons, List.map_cons, zip_fst l m (by simpa using h)]
theorem zip_snd {α β : Type} : ∀ (l : List (α × β)) (m : List β), m.length = l.length → ((l.map (·.1)).zip m).map (·.2) = m
  | [], [], _ => rfl
  | [], _ :: _, h => by simp at h
  | _ :: _, [], h => by simp at h
  | p :: l, b :: m, h => by
    rw [List.map_cons, List.zip_cons_cons, List.map_cons, zip_snd l m (by simpa using h)]
theorem atI_of {α : Type} {l : List α} {k : Int} {j : Nat} {a : α} (h : ixN l.length k = some j) (e : l[j]? = some a) : L2.atI l k = some a := by
  unfold L2.atI; rw [h]; exact e
theorem SOk.elem {X : Cx} {H : Hp} {Γ : Env} {σ : St} {fp fo rest : List Addr} {i : Nat} {o o1 : O} {k : D} (S : SOk H Γ σ fp (fo ++ rest)) (e : Γ[i]? = some (some o)) (ek : atO o k = some o1) (ho : o1.node = true) :
    ∃ a0 b fi f1 f2, ∀ H2, (∀ c u, H c = some u → H2 c = some u) → Elem X H2 Γ σ fp fo rest i o k o1 a0 b fi f1 f2 := by
  obtain ⟨v, f, g1, g2, h1, h2, h3, h4, h5⟩ := S.env.split e
  have seq : ∀ (os : List O) (tp : Bool) (n : Int), k = .int n → o = (if tp = true then O.tup os else O.lst os) → ∀ (xs : List V) (a0 : Addr) (fl : List Addr), v = .ref a0 → f = (if tp = true then fl else a0 :: fl) →
      (tp = true → a0 ∉ fp ++ (fo ++ rest)) → H a0 = some (if tp = true then HO.tup xs else HO.lst xs) → RepOs (fp ++ (fo ++ rest)) H os xs fl → ((ixN os.length n).bind fun n => os[n]?) = some o1 → ∃ a0 b fi f1 f2, ∀ H2, (∀ c u, H c = some u → H2 c = some u) → Elem X H2 Γ σ fp fo rest i o k o1 a0 b fi f1 f2 := by
    intro os tp n hk hoo xs a0 fl hv hf hna hH s hat
    obtain ⟨j, hj, hat⟩ := Option.bind_eq_some_iff.mp hat
    obtain ⟨ve, fe, k1, k2, m1, m2, m3, m4, m5⟩ := s.split hat
    obtain ⟨b, fi, rfl, rfl⟩ := node_ref m2 ho
    subst hv hk
    have hlen := s.length
    refine ⟨a0, b, fi, g1 ++ ((if tp = true then [] else [a0]) ++ k1), k2 ++ g2, fun H2 gr => ⟨h1, ?_, m2.stay (fun c u ec n => ⟨gr c u ec, n⟩) (fun c u ec _ => gr c u ec), fun A y Q ry q => ?_, fun o2 _ wr hwr => ?_⟩⟩
    · rw [h3, hf, m3]; cases tp <;> simp
    · cases ry
      have hat2 : L2.atI xs n = some (.ref b) := atI_of (by rw [← hlen]; exact hj) m1
      have hH := gr _ _ hH
      cases tp with
      | false => exact .inl ⟨a0, xs, n, .ref b, rfl, rfl, SqL.of hH, hat2, q⟩
      | true => exact .inr (.inl ⟨a0, xs, n, .ref b, rfl, rfl, .inl (.inl hH), hat2, q⟩)
    · have hw2 : ∀ o', wr o' = (if tp = true then O.tup (os.set j o') else O.lst (os.set j o')) := fun o' => by
        have := hwr o'
        rw [hoo] at this
        cases tp with
        | false =>
          have this : (ixN os.length n).map (fun n => O.lst (os.set n o')) = some (wr o') := this
          rw [hj] at this; exact (Option.some.inj this).symm
        | true =>
          have this : (ixN os.length n).map (fun n => O.tup (os.set n o')) = some (wr o') := this
          rw [hj] at this; exact (Option.some.inj this).symm
      refine SOk.core (S.grow gr) (by rw [h3, hf, m3]; cases tp <;> simp) wr fun A' H' st kp sub o' fo' R' => ?_
      have st : ∀ c u, H c = some u → c ∉ fp ++ (fo ++ rest) → H' c = some u ∧ c ∉ A' := fun c u e n => st c u (gr c u e) n
      have kp : ∀ c u, H c = some u → c ∈ (g1 ++ ((if tp = true then [] else [a0]) ++ k1)) ++ (k2 ++ g2) → H' c = some u := fun c u e n => kp c u (gr c u e) n
      have q1 := m5 A' H' st (fun c u ec hc => kp c u ec (by simp only [List.mem_append] at hc ⊢; rcases hc with h | h <;> simp [h])) o' (.ref b) fo' R'
      rw [set_self' m1] at q1
      have hH' : H' a0 = some (if tp = true then HO.tup xs else HO.lst xs) := by
        cases tp with
        | false => exact kp a0 _ hH (by simp)
        | true => exact (st a0 _ hH (hna rfl)).1
      have q2 : RepO A' H' (wr o') (.ref a0) (if tp = true then (k1 ++ fo' ++ k2) else (a0 :: (k1 ++ fo' ++ k2))) := by
        rw [hw2]
        cases tp with
        | false => exact .lst hH' q1
        | true => exact .tup (st a0 _ hH (hna rfl)).2 hH' q1
      have q3 := h5 A' H' st (fun c u ec hc => kp c u ec (by simp only [List.mem_append] at hc ⊢; rcases hc with h | h <;> simp [h])) _ _ _ q2
      rw [set_none h1] at q3
      have : g1 ++ (if tp = true then (k1 ++ fo' ++ k2) else (a0 :: (k1 ++ fo' ++ k2))) ++ g2 = (g1 ++ ((if tp = true then [] else [a0]) ++ k1)) ++ fo' ++ (k2 ++ g2) := by cases tp <;> simp
      rw [this] at q3
      exact q3
  cases o with
  | sh d => cases k <;> cases ek
  | lst os =>
    cases k with
    | int n => cases h2 with
      | lst hH s => exact seq os false n rfl rfl _ _ _ rfl rfl (fun q => by cases q) hH s ek
    | _ => cases ek
  | tup os =>
    cases k with
    | int n => cases h2 with
      | tup n0 hH s => exact seq os true n rfl rfl _ _ _ rfl rfl (fun _ => n0) hH s ek
    | _ => cases ek
  | dic kvs =>
    have ek : (if keysOk (kvs.map (·.1)) k = true then (idxK (kvs.map (·.1)) k).bind fun n => (kvs.map (·.2))[n]? else none) = some o1 := by cases k <;> exact ek
    split at ek
    case isFalse => cases ek
    rename_i ok
    obtain ⟨j, hj, hat⟩ := Option.bind_eq_some_iff.mp ek
    cases h2 with
    | @dic _ a0 u vs fl hH hu s =>
      obtain ⟨ve, fe, k1, k2, m1, m2, m3, m4, m5⟩ := s.split hat
      obtain ⟨b, fi, rfl, rfl⟩ := node_ref m2 ho
      refine ⟨a0, b, fi, g1 ++ (a0 :: k1), k2 ++ g2, fun H2 gr => ⟨h1, by rw [h3, m3]; simp, m2.stay (fun c u ec n => ⟨gr c u ec, n⟩) (fun c u ec _ => gr c u ec), fun A y Q ry q => ?_, fun o2 _ wr hwr => ?_⟩⟩
      · obtain ⟨H0, ot, g⟩ := dictAt (gr _ _ hH) hu ry ok hj m1
        exact .inr (.inr ⟨a0, H0, .ref b, rfl, ot, g, q⟩)
      · have hw2 : ∀ o', wr o' = .dic ((kvs.map (·.1)).zip ((kvs.map (·.2)).set j o')) := fun o' => by
          have := hwr o'
          rw [setAt_dic, hj] at this
          exact (Option.some.inj this).symm
        refine SOk.core (S.grow gr) (by rw [h3, m3]; simp) wr fun A' H' st kp sub o' fo' R' => ?_
        have st : ∀ c u, H c = some u → c ∉ fp ++ (fo ++ rest) → H' c = some u ∧ c ∉ A' := fun c u e n => st c u (gr c u e) n
        have kp : ∀ c u, H c = some u → c ∈ (g1 ++ (a0 :: k1)) ++ (k2 ++ g2) → H' c = some u := fun c u e n => kp c u (gr c u e) n
        have q1 := m5 A' H' st (fun c u ec hc => kp c u ec (by simp only [List.mem_append] at hc ⊢; rcases hc with h | h <;> simp [h])) o' (.ref b) fo' R'
        rw [set_self' m1] at q1
        have hl : ((kvs.map (·.2)).set j o').length = kvs.length := by simp
        have q2 : RepO A' H' (wr o') (.ref a0) (a0 :: (k1 ++ fo' ++ k2)) := by
          rw [hw2]
          exact .dic (kp a0 _ hH (by simp)) (by rw [zip_fst _ _ hl]; exact hu) (by rw [zip_snd _ _ hl]; exact q1)
        have q3 := h5 A' H' st (fun c u ec hc => kp c u ec (by simp only [List.mem_append] at hc ⊢; rcases hc with h | h <;> simp [h])) _ _ _ q2
        rw [set_none h1] at q3
        have : g1 ++ (a0 :: (k1 ++ fo' ++ k2)) ++ g2 = (g1 ++ (a0 :: k1)) ++ fo' ++ (k2 ++ g2) := by simp
        rw [this] at q3
        exact q3
/-! ### name[k].append(e) -/
def M.atL {α : Type} (i : Nat) (k : D) (m : M α) : M α := fun Γ => match Γ[i]? with
  | some (some o) => match atO o k with
    | some (.lst _) => m Γ
    | _ => none
  | _ => none
def M.chAt (i : Nat) (k : D) (F : List O → Option (O × List O)) : M O := fun Γ => match Γ[i]? with
  | some (some o) => match atO o k with
    | some (.lst os) => match F os with
      | some (r, os') => match setAt o k (.lst os') with
        | some o' => some (.ok r, Γ.set i (some o'))
        | none => none
      | none => none
    | _ => none
  | _ => none
theorem setAt_some {o : O} {k : D} {o1 : O} (h : atO o k = some o1) : ∃ wr : O → O, ∀ o', setAt o k o' = some (wr o') := by
  cases o with
  | sh d => cases k <;> cases h
  | lst os =>
    cases k with
    | int n =>
      obtain ⟨j, hj, _⟩ := Option.bind_eq_some_iff.mp h
      exact ⟨fun o' => .lst (os.set j o'), fun o' => by show (ixN os.length n).map _ = _; rw [hj]; rfl⟩
    | _ => cases h
  | tup os =>
    cases k with
    | int n =>
      obtain ⟨j, hj, _⟩ := Option.bind_eq_some_iff.mp h
      exact ⟨fun o' => .tup (os.set j o'), fun o' => by show (ixN os.length n).map _ = _; rw [hj]; rfl⟩
    | _ => cases h
  | dic kvs =>
    have h : (if keysOk (kvs.map (·.1)) k = true then (idxK (kvs.map (·.1)) k).bind fun n => (kvs.map (·.2))[n]? else none) = some o1 := by cases k <;> exact h
    split at h
    · obtain ⟨j, hj, _⟩ := Option.bind_eq_some_iff.mp h
      exact ⟨fun o' => .dic ((kvs.map (·.1)).zip ((kvs.map (·.2)).set j o')), fun o' => by
        rw [setAt_dic, hj]; rfl⟩
    · cases h
section
variable {X : Cx} {e ek : Expr} {fe fk : M D} {x : Str} {p p1 p2 pos : Pos}
theorem de_appAt (i : Nat) (hu : X.A.units + 1 < cLine) (hk : Still X ek fk) (he : Still X e fe) (hN : X.N[i]? = some x := by rfl) (hv : Vis X.env.scope x := by first | exact Or.inl rfl | exact Or.inr (Or.inl rfl) | exact Or.inr (Or.inr rfl)) (hd : (x == ("__debug__" : Str)) = false := by decide)
    (hcd : (x == ("__classdict__" : Str)) = false := by decide) (hsl : PlainIx ek := by exact fun _ _ => rfl) (hbase : attributeBase (.Subscript (.Name x p) ek p1) "append" X.env (eval (.Subscript (.Name x p) ek p1) X.env) = eval (.Subscript (.Name x p) ek p1) X.env := by rfl)
    (hfew : ((backTo pos (starEach [e] X.env)).all (fun x => !x.1) && (backToKw pos (keywordEach [] X.env)).all (fun x => x.1.isSome) && decide (([e] : List Expr).length + ([] : List Keyword).length + (if ([] : List Keyword).isEmpty then 0 else 1) < 30)) = true := by rfl)
    (hline : (p2.endLine == pos.line) = true := by rfl) (hs : starEach [e] X.env = (false, eval e X.env) :: starEach [] X.env := by rfl) :
    DE X (.Call (.Attribute (.Subscript (.Name x p) ek p1) "append" p2) [e] [] pos) (M.bind fk fun k => M.atL i k (M.bind fe fun d => M.chAt i k (opAppend (.sh d)))) := by
  refine ⟨fun W tk σ H Γ fp rest Q S hW => we (pe_bm PySem.F.plainAttrs_list PySem.F.slot_list_append PySem.F.type_list_append mt_append (pe_ix (ix_O hu) (pe_var hN hv hd hcd) pe_w hsl) (pa_cons pe_w pa_nil hs) hbase hfew hline hs) ?_⟩
  unfold M.bind at hW
  cases hfk : fk Γ with
  | none => rw [hfk] at hW; exact hW.elim
  | some r =>
    obtain ⟨r, Γ1⟩ := r
    cases r with
    | ex ε => exact absurd hfk (hk.noex Γ ε Γ1)
    | ok k =>
      have e1 := hk.same Γ k Γ1 hfk
      rw [e1] at hfk
      rw [hfk] at hW
      simp only [M.atL] at hW
      split at hW
      case h_2 => exact hW.elim
      rename_i o e0
      split at hW
      case h_2 => exact hW.elim
      rename_i os ea
      obtain ⟨wr, hwr⟩ := setAt_some ea
      have S0 : SOk H Γ σ fp ([] ++ rest) := S
      obtain ⟨a0, b, fi, f1, f2, E⟩ := S0.elem (X := X) e0 ea rfl
      refine ⟨_, (E H fun _ _ h => h).at', ?_⟩
      refine hk.run W tk σ H Γ fp rest _ k Γ S hfk fun y H1 kp R1 => ?_
      have E1 := E H1 kp
      refine E1.get _ y _ R1 ?_
      refine ⟨by
        cases E1.rep with
        | lst h s => exact .inl ⟨rfl, _, .inl (.inl h)⟩, ?_⟩
      cases hfe : fe Γ with
      | none => rw [hfe] at hW; exact hW.elim
      | some r2 =>
        obtain ⟨r2, Γ2⟩ := r2
        cases r2 with
        | ex ε => exact absurd hfe (he.noex Γ ε Γ2)
        | ok d =>
          have e2 := he.same Γ d Γ2 hfe
          rw [e2] at hfe
          rw [hfe] at hW
          simp only [M.chAt] at hW
          rw [e0] at hW
          simp only [ea] at hW
          unfold opAppend at hW
          by_cases hz : os.length < 16777216
          · rw [if_pos hz] at hW
            simp only [hwr] at hW
            refine he.run W tk σ H1 Γ fp rest _ d Γ (S.grow kp) hfe fun z H2 kp2 R2 => ?_
            have kp3 : ∀ c u, H c = some u → H2 c = some u := fun c u e => kp2 c u (kp c u e)
            have E2 := E H2 kp3
            have R3 := E2.rep
            cases R3 with
            | @lst _ _ xs _ hH s =>
              have hlen := s.length
              obtain ⟨st, ne, mk, go⟩ := E2.put _ (hwr (.lst os)) wr hwr fi [] (fun c => by rw [List.append_nil]; exact Nat.le_refl _) (.lst (xs ++ [z])) trivial
              refine ⟨b, _, z, rfl, rfl, hH, by rw [← hlen]; exact sizeLine_lt.mp hz, ?_⟩
              refine Wp.done (a := O.sh .none) (Γ := Γ.set i (some (wr (.lst (os ++ [O.sh d]))))) hW (fo := []) (mk _ (.lst upd_same ?_)) (RepO.sh RepD.non) ((Go.grow kp3 fp).trans go)
              have R4 : RepO (fp ++ ([] ++ rest)) H2 (O.sh d) z [] := RepO.sh R2
              have z1 := RepOs.cons (R4.cl st _ _ rfl fun c hc => by cases hc) .nil
              have z2 := (s.cl st b (.lst (xs ++ [z])) rfl fun c hc => ne c (by simp [hc])).append z1
              simp only [List.append_nil] at z2
              exact z2
          · rw [if_neg hz] at hW; exact hW.elim
/-! ### xs[::-1] -/
def oRev : D → Option O
  | .list xs => some (.lst (xs.reverse.map .sh))
  | _ => none
theorem de_rev {kk : Nat} {p3 p4 : Pos} (h : DX X e fe) : DE X (.Subscript e (.Slice none none (some (.UnaryOp .USub (.Constant (.int 1) kk p1) p2)) p3) p4) (M.bind fe fun x => M.lift (oRev x)) := by
  refine ⟨fun W tk σ H Γ fp rest Q S hW => we (pe_revL pe_w) ?_⟩
  refine h.thn tk S hW fun d Γ1 x H1 fo fp1 S1 R1 G1 hW1 => ?_
  obtain ⟨rfl, R1⟩ := R1
  obtain ⟨o, e, hW1⟩ := hW1.lift1
  have q := newQ_of S1 hW1
  unfold oRev at e
  split at e
  · cases e
    cases R1 with
    | lst n h s => exact ⟨_, _, rfl, .inl h, fin_newO s.reverse S1.nd S1.trk q⟩
  · cases e
end
end DS
namespace DS
open PySem PySem.Spec PyProof.Rows L2
/-! ### turned about in place -/
theorem RepOs.rev {A : List Addr} {H : Hp} : ∀ {os : List O} {vs : List V} {f : List Addr}, RepOs A H os vs f → ∃ f', RepOs A H os.reverse vs.reverse f' ∧ ∀ b, f'.count b = f.count b
  | _, _, _, .nil => ⟨[], .nil, fun _ => rfl⟩
  | _, _, _, @RepOs.cons _ _ o v fo os vs fp r s => by
    obtain ⟨f', h1, h2⟩ := RepOs.rev s
    have z := h1.append (RepOs.cons r .nil)
    rw [List.append_nil] at z
    rw [List.reverse_cons, List.reverse_cons]
    exact ⟨f' ++ fo, z, fun b => by rw [List.count_append, List.count_append, h2]; omega⟩
def opReverse (os : List O) : Option (O × List O) := some (.sh .none, os.reverse)
section
variable {X : Cx} {x : Str} {p p2 pos : Pos}
theorem de_reverse (i : Nat) (hN : X.N[i]? = some x := by rfl) (hv : Vis X.env.scope x := by first | exact Or.inl rfl | exact Or.inr (Or.inl rfl) | exact Or.inr (Or.inr rfl)) (hd : (x == ("__debug__" : Str)) = false := by decide)
    (hcd : (x == ("__classdict__" : Str)) = false := by decide) (hbase : attributeBase (.Name x p) "reverse" X.env (eval (.Name x p) X.env) = eval (.Name x p) X.env := by rfl) (hline : (p2.endLine == pos.line) = true := by rfl) :
    DE X (.Call (.Attribute (.Name x p) "reverse" p2) [] [] pos) (M.chL i opReverse) := by
  refine ⟨fun W tk σ H Γ fp rest Q S hW => we (pe_bm0 PySem.F.plainAttrs_list PySem.F.slot_list_reverse PySem.F.type_list_reverse mt_reverse (pe_var hN hv hd hcd) hbase hline) ?_⟩
  obtain ⟨os, r, os', e1, e2, hW1⟩ := M.chL_of (α := O) hW
  obtain ⟨a0, hσ, ty⟩ := S.tyL (K := X.K) e1
  refine ⟨_, hσ, ty, ?_⟩
  cases e2
  obtain ⟨a, fi, f1, f2, h1, h3, h2, h4⟩ := SOk.slot (fo := []) S e1 rfl
  rw [hσ] at h1; cases h1
  cases h2 with
  | @lst _ _ xs _ hH s =>
    obtain ⟨f', s', hc⟩ := s.rev
    obtain ⟨st, ne, mk, go⟩ := h4 f' [] (fun b => by simp [hc b]) (.lst xs.reverse) trivial
    exact ⟨a0, _, rfl, rfl, hH, hW1.done (fo := []) (mk _ (.lst upd_same (s'.cl st _ _ rfl fun b hb => ne b (by simp [hb])))) (.sh .non) go⟩
end
/-! ### a call that changes a thing made for it -/
def unsh : List O → Option (List D)
  | [] => some []
  | .sh d :: l => (unsh l).map (d :: ·)
  | _ => none
theorem unsh_of : ∀ {l : List O} {ds : List D}, unsh l = some ds → l = ds.map .sh
  | [], _, h => by cases h; rfl
  | .sh d :: l, ds, h => by
    obtain ⟨ds', h1, rfl⟩ := Option.map_eq_some_iff.mp (show (unsh l).map (d :: ·) = some ds from h)
    rw [unsh_of h1]; rfl
  | .lst _ :: _, _, h => by cases h
  | .tup _ :: _, _, h => by cases h
  | .dic _ :: _, _, h => by cases h
def M.callT (n : Nat) (F : O → List D → Option (O × O)) : List O → M O
  | o :: l => fun Γ => match unsh l with
    | some ds => if ds.length + 1 = n then match F o ds with
      | some (r, _) => some (.ok r, Γ)
      | none => none
      else none
    | none => none
  | [] => fun _ => none
section
variable {X : Cx} {k n : Nat} {f : Addr} {fd : FuncData} {ps : List Str} {x : Str} {p pos : Pos} {e : Expr} {es : List Expr} {fs : M (List O)}
theorem de_callT {G : O → List D → Option (O × O)} (F : FnG X.prog X.w X.K X.mg X.base k f fd ps (spM X.mg n G)) (hr : Room k X.A) (hgd : X.A.guards = some []) (hm : X.mg x = some (.ref f)) (hk : PySem.W.keepIn X.K (.ref f) = true) (hb : Binds X.K fd ps [])
    (ha : DAO X (e :: es) fs) (hg : Gl X x := by rfl) (hdb : (x == ("__debug__" : Str)) = false := by decide) (he : starEach (e :: es) X.env = (false, eval e X.env) :: starEach es X.env := by rfl) (hpl : (backTo pos (starEach es X.env)).any (·.1) = false := by rfl) :
    DE X (.Call (.Name x p) (e :: es) [] pos) (M.bind fs (M.callT n G)) := by
  refine ⟨fun W tk σ H Γ fp rest Q S hW => we (pe_callG tk F hr hgd hm hk hb .nil pa_w hg hdb he hpl) ?_⟩
  refine ha.thn tk S hW fun l Γ1 vs H1 fo fp1 S1 R1 G1 hW1 => ?_
  cases R1 with
  | nil => exact hW1.elim
  | @cons o v f0 os vs f1 Ro Rs =>
    simp only [M.callT] at hW1
    split at hW1
    case h_2 => exact hW1.elim
    rename_i ds hds
    have hos := unsh_of hds
    subst hos
    obtain ⟨Rd, rfl⟩ := RepOs.toD Rs
    rw [List.append_nil] at *
    split at hW1
    case isFalse => exact hW1.elim
    rename_i hn
    split at hW1
    case h_2 => exact hW1.elim
    rename_i r o' hG
    have pm : (fp1 ++ (f0 ++ rest)).Perm (f0 ++ (fp1 ++ rest)) := by
      refine List.perm_iff_count.mpr fun b => ?_
      simp only [List.count_append]; omega
    refine ⟨o, ds, v, vs, f0, fp1 ++ rest, by simp, hn, Ro.congr fun b h => pm.mem_iff.mpr h, Rd.congr fun b h => pm.mem_iff.mpr h, pm.nodup_iff.mp S1.nd, fun a h => S1.trk a (pm.mem_iff.mpr h), ?_⟩
    rw [hG]
    intro v' H' fo2 fp2 Ro' Rr nd' tr' G'
    have sub : ∀ b ∈ fp1 ++ (fo2 ++ rest), b ∈ fp2 ++ (fo2 ++ (fp1 ++ rest)) := fun b h => by
      simp only [List.mem_append] at h ⊢
      rcases h with h | h | h
      · exact .inr (.inr (.inl h))
      · exact .inr (.inl h)
      · exact .inr (.inr (.inr h))
    have ndf := pm.nodup_iff.mp S1.nd
    have nd2 : (fp1 ++ (fo2 ++ rest)).Nodup := by
      refine cnt_nodup nd' fun b => ?_
      simp only [List.count_append]; omega
    have out : ∀ b u, H1 b = some u → b ∉ f0 → H' b = some u ∧ b ∉ fo2 ++ fp2 := fun b u e n => ⟨G'.keep b u e n, fun q => by
      rcases G'.new b q with z | z
      · exact n z
      · rw [e] at z; cases z⟩
    have nf0 : ∀ b, b ∈ fp1 ++ rest → b ∉ f0 := fun b h q => (List.nodup_append.mp ndf).2.2 b q b h rfl
    refine hW1 v' H' fo2 fp1 ⟨S1.env.stay (fun b u e n => ?_) fun b u e hb => (out b u e (nf0 b (List.mem_append_left _ hb))).1, nd2, fun a h => tr' a (sub a h)⟩ (Rr.congr sub) ⟨fun b u e n => G'.keep b u e fun q => n (by simp [q]), fun b h => ?_⟩
    · have n0 : b ∉ f0 := fun q => n (by simp [q])
      obtain ⟨k1, k2⟩ := out b u e n0
      refine ⟨k1, fun q => ?_⟩
      simp only [List.mem_append] at q n k2
      rcases q with q | q | q
      · exact n (.inl q)
      · exact k2 (.inl q)
      · exact n (.inr (.inr q))
    · rcases List.mem_append.mp h with h | h
      · rcases G'.new b (List.mem_append_left _ h) with z | z
        · exact .inl (List.mem_append_left _ z)
        · exact .inr z
      · exact .inl (List.mem_append_right _ h)
end
end DS
namespace DS
open PySem PySem.Spec PyProof.Rows L2
/-! ### calls by names -/
/-- positional ones, then the named ones in the parameters' order -/
def kwG {α : Type} (n1 k : Nat) (π : List Nat) (us ws : List α) : List α := if us.length = n1 ∧ ws.length = k then us ++ π.filterMap (fun i => ws[i]?) else []
theorem vals_get : ∀ {vs : List V} {us : List Value} (i : Nat), Vals vs us → (vs[i]? = none ∧ us[i]? = none) ∨ ∃ v u, vs[i]? = some v ∧ us[i]? = some u ∧ RelV v u
  | _, _, _, .nil => .inl ⟨by simp, by simp⟩
  | _, _, 0, .cons r _ => .inr ⟨_, _, rfl, rfl, r⟩
  | _, _, i + 1, .cons _ s => by
    rcases vals_get i s with ⟨a, b⟩ | ⟨v, u, a, b, c⟩
    · exact .inl ⟨by simpa using a, by simpa using b⟩
    · exact .inr ⟨v, u, by simpa using a, by simpa using b, c⟩
theorem vals_pick {zs : List V} {ws : List Value} (h : Vals zs ws) : ∀ π : List Nat, Vals (π.filterMap fun i => zs[i]?) (π.filterMap fun i => ws[i]?)
  | [] => .nil
  | i :: π => by
    rcases vals_get i h with ⟨a, b⟩ | ⟨v, u, a, b, c⟩
    · rw [List.filterMap_cons_none a, List.filterMap_cons_none b]; exact vals_pick h π
    · rw [List.filterMap_cons_some a, List.filterMap_cons_some b]; exact .cons c (vals_pick h π)
theorem repDs_pick {A : List Addr} {H : Hp} {ds : List D} {vs : List V} (h : RepDs A H ds vs) : ∀ π : List Nat, RepDs A H (π.filterMap fun i => ds[i]?) (π.filterMap fun i => vs[i]?)
  | [] => .nil
  | i :: π => by
    cases e : ds[i]? with
    | none =>
      have e2 : vs[i]? = none := by
        rw [List.getElem?_eq_none_iff] at e ⊢
        rw [← h.length]; exact e
      rw [List.filterMap_cons_none e, List.filterMap_cons_none e2]; exact repDs_pick h π
    | some d =>
      obtain ⟨v, e2, r⟩ := h.get e
      rw [List.filterMap_cons_some e, List.filterMap_cons_some e2]; exact .cons r (repDs_pick h π)
theorem kb_of {K : PySem.W.Frag} {fd : FuncData} {ps ks : List Str} (n1 k : Nat) (π : List Nat) (hps : ps ≠ [])
    (h : ∀ us ws : List Value, us.length = n1 → ws.length = k → bindArgs fd ⟨us, ks.zip ws⟩ = pure (ps.zip (us ++ π.filterMap fun i => ws[i]?))) : KBinds K fd ps ks (kwG n1 k π) (kwG n1 k π) := by
  refine ⟨fun s us ws _ hl => ?_, fun {vs us zs ws} r1 r2 => ?_⟩
  · unfold kwG at hl ⊢
    split at hl
    · rename_i q
      rw [if_pos q]
      exact .of_eq (h us ws q.1 q.2)
    · exact absurd (List.length_eq_zero_iff.mp hl.symm) hps
  · unfold kwG
    rw [r1.length, r2.length]
    split
    · exact r1.append (vals_pick r2 π)
    · exact .nil
section
variable {X : Cx} {k n : Nat} {f : Addr} {fd : FuncData} {ps ks : List Str} {x : Str} {p pos kpos : Pos} {e : Expr} {es : List Expr} {kws : List Keyword} {nm : Option Str} {fs fk : M (List D)} {fx : M D}
theorem pe_callKG {sp : Sp} {W : WX} (tk : Takes X W) (F : FnG X.prog X.w X.K X.mg X.base k f fd ps sp) (hr : Room k X.A) (hgd : X.A.guards = some []) (hm : X.mg x = some (.ref f)) (hk : PySem.W.keepIn X.K (.ref f) = true)
    {g : List Value → List Value → List Value} {gV : List V → List V → List V} (hb : KBinds X.K fd ps ks g gV) {t t2 : TA} (ha : PA X (e :: es) t) (hkw : PK X kws t2) (hg : Gl X x)
    (hall : (backToKw pos (keywordEach kws X.env)).all (·.1.isSome) = true) (hks : (backToKw pos (keywordEach kws X.env)).filterMap (·.1) = ks)
    (hdb : (x == ("__debug__" : Str)) = false) (he : starEach (e :: es) X.env = (false, eval e X.env) :: starEach es X.env)
    (hpl : ((backTo pos (starEach (e :: es) X.env)).any (·.1) || (backToKw pos (keywordEach kws X.env)).any (·.1.isNone)) = false) :
    PE X (.Call (.Name x p) (e :: es) kws pos) (fun σ H Q => t σ H fun vs H1 => t2 σ H1 fun zs H2 => sp (gV vs zs) H2 Q (WE W σ)) := by
  refine ⟨fun pins s σ H Q I h => ?_⟩
  refine wpAny_Call_Name_kw (ld_glob I hg hm ?_ hdb)
  refine PySem.W.callWith_KW (h₀ := X.base) I.ok.mod.kin hk hall (thn (ha.run pos pins s σ H _ I h) fun us s1 ⟨vs, H1, I1, r, q⟩ => ?_) hpl he
  refine thn (hkw.run pos pins s1 σ H1 _ I1 q) fun ws s2 ⟨zs, H2, I2, rz, q2⟩ => ⟨I2.kIn, ?_⟩
  rw [hks]
  have r2 := hb.rel r rz
  have hl : (g us ws).length = ps.length := by rw [← r2.length]; exact F.len _ _ _ _ q2
  refine wpAny_call (codeAny_mono (F.run X.A X.stack s2 H2 ⟨us, ks.zip ws⟩ (g us ws) (gV vs zs) Q _ hr hgd I2.env0 (hb.to s2 us ws I2.kIn hl) r2 q2) fun r s' hq => ?_)
  cases r with
  | error e => exact passAt tk σ pins H2 s2 e s' I2 hq
  | ok fl =>
    cases fl with
    | ret u => exact I2.after hq
    | next => exact False.elim hq
    | brk => exact False.elim hq
    | cont => exact False.elim hq
/-- the named arguments -/
def wK (X : Cx) (kws : List Keyword) : TA := fun σ H Q => ∀ (pos : Pos) pins s, Inv X pins σ H s → wpAny (model X.prog X.w) X.A (evalAll ((backToKw pos (keywordEach kws X.env)).map (·.2))) (AP X pins σ Q) X.xe s
theorem pk_w {kws : List Keyword} : PK X kws (wK X kws) := ⟨fun pos pins s σ H Q I h => h pos pins s I⟩
theorem wk {t : TA} (h : PK X kws t) {σ : St} {H : Hp} {Q : List V → Hp → Prop} (q : t σ H Q) : wK X kws σ H Q := fun pos pins s I => h.run pos pins s σ H Q I q
abbrev DK (X : Cx) (kws : List Keyword) (f : M (List D)) : Prop := Jd X (wK X kws) repXs f
theorem dk_nil : DK X [] (M.pure []) := ⟨fun W tk σ H Γ fp rest Q S hW => wk pk_nil (hW.done (fo := []) S ⟨rfl, .nil⟩ (Go.refl _ _))⟩
theorem dk_cons (h1 : DX X e fx) (h2 : DK X kws fk) : DK X (⟨nm, e, kpos⟩ :: kws) (M.bind fx fun x => M.bind fk fun xs => M.pure (x :: xs)) := by
  refine ⟨fun W tk σ H Γ fp rest Q S hW => wk (pk_cons pe_w pk_w) ?_⟩
  refine h1.thn tk S hW fun d Γ1 x H1 fo fp1 S1 R1 G1 hW1 => ?_
  obtain ⟨rfl, R1⟩ := R1
  refine h2.thn tk S1 hW1 fun ds Γ2 xs H2 fo fp2 S2 R2 G2 hW2 => ?_
  obtain ⟨rfl, R2⟩ := R2
  exact hW2.done (fo := []) S2 ⟨rfl, .cons (G2.repD R1) R2⟩ (Go.refl _ _)
theorem de_callK {G : List D → Option (Out O)} {n1 kn : Nat} {π : List Nat} (F : FnG X.prog X.w X.K X.mg X.base k f fd ps (spF X.mg n G)) (hr : Room k X.A) (hgd : X.A.guards = some []) (hm : X.mg x = some (.ref f)) (hk : PySem.W.keepIn X.K (.ref f) = true)
    (hb : KBinds X.K fd ps ks (kwG n1 kn π) (kwG n1 kn π)) (ha : DA X (e :: es) fs) (hkw : DK X kws fk) (hg : Gl X x := by rfl)
    (hall : (backToKw pos (keywordEach kws X.env)).all (·.1.isSome) = true := by rfl) (hks : (backToKw pos (keywordEach kws X.env)).filterMap (·.1) = ks := by rfl)
    (hdb : (x == ("__debug__" : Str)) = false := by decide) (he : starEach (e :: es) X.env = (false, eval e X.env) :: starEach es X.env := by rfl)
    (hpl : ((backTo pos (starEach (e :: es) X.env)).any (·.1) || (backToKw pos (keywordEach kws X.env)).any (·.1.isNone)) = false := by rfl) :
    DE X (.Call (.Name x p) (e :: es) kws pos) (M.bind fs fun l => M.bind fk fun m => if (kwG n1 kn π l m).length = n then M.call G (kwG n1 kn π l m) else M.fail) := by
  refine ⟨fun W tk σ H Γ fp rest Q S hW => we (pe_callKG tk F hr hgd hm hk hb pa_w pk_w hg hall hks hdb he hpl) ?_⟩
  refine ha.thn tk S hW fun l Γ1 vs H1 fo fp1 S1 R1 G1 hW1 => ?_
  obtain ⟨rfl, R1⟩ := R1
  refine hkw.thn tk S1 hW1 fun m Γ2 zs H2 fo fp2 S2 R2 G2 hW2 => ?_
  obtain ⟨rfl, R2⟩ := R2
  have R1' := G2.repDs R1
  have R : RepDs (fp2 ++ rest) H2 (kwG n1 kn π l m) (kwG n1 kn π vs zs) := by
    unfold kwG
    rw [R1'.length, R2.length]
    split
    · exact R1'.append (repDs_pick R2 π)
    · exact .nil
  split at hW2
  · rename_i hl
    exact spF_ok S2 R hl hW2
  · exact hW2.elim
end
end DS
namespace DS
open PySem PySem.Spec PyProof.Rows L2
/-! ### an item of a thing that nobody else holds -/
noncomputable def atOS : O → D → Option O
  | .sh d, k => (dIx d k).map .sh
  | .lst os, k => atO (.lst os) k
  | .tup os, k => atO (.tup os) k
  | .dic kvs, k => atO (.dic kvs) k
section
variable {X : Cx}
theorem RepO.elemV {A : List Addr} {H : Hp} {o o1 : O} {v : V} {f : List Addr} {k : D} (R : RepO A H o v f) (ek : atO o k = some o1) :
    ∃ v1 f1, (∀ (A' : List Addr) (y : V) (Q : VK), RepD A' H k y → Q v1 H → rIxO X v y H Q) ∧ RepO A H o1 v1 f1 ∧ ∃ p1 p2, f = p1 ++ f1 ++ p2 := by
  cases R with
  | sh _ => cases k <;> cases ek
  | @lst os a xs fl hH s =>
    cases k with
    | int n =>
      obtain ⟨j, hj, hat⟩ := Option.bind_eq_some_iff.mp (show (ixN os.length n).bind (fun n => os[n]?) = some o1 from ek)
      obtain ⟨ve, fe, k1, k2, m1, m2, m3, m4, m5⟩ := s.split hat
      refine ⟨ve, fe, fun A' y Q ry q => ?_, m2, a :: k1, k2, by rw [m3]; simp⟩
      cases ry
      exact .inl ⟨a, xs, n, ve, rfl, rfl, SqL.of hH, atI_of (by rw [← s.length]; exact hj) m1, q⟩
    | _ => cases ek
  | @tup os a xs fl na hH s =>
    cases k with
    | int n =>
      obtain ⟨j, hj, hat⟩ := Option.bind_eq_some_iff.mp (show (ixN os.length n).bind (fun n => os[n]?) = some o1 from ek)
      obtain ⟨ve, fe, k1, k2, m1, m2, m3, m4, m5⟩ := s.split hat
      refine ⟨ve, fe, fun A' y Q ry q => ?_, m2, k1, k2, m3⟩
      cases ry
      exact .inr (.inl ⟨a, xs, n, ve, rfl, rfl, .inl (.inl hH), atI_of (by rw [← s.length]; exact hj) m1, q⟩)
    | _ => cases ek
  | @dic kvs a u vs fl hH hu s =>
    have ek : (if keysOk (kvs.map (·.1)) k = true then (idxK (kvs.map (·.1)) k).bind fun n => (kvs.map (·.2))[n]? else none) = some o1 := by cases k <;> exact ek
    split at ek
    case isFalse => cases ek
    rename_i ok
    obtain ⟨j, hj, hat⟩ := Option.bind_eq_some_iff.mp ek
    obtain ⟨ve, fe, k1, k2, m1, m2, m3, m4, m5⟩ := s.split hat
    refine ⟨ve, fe, fun A' y Q ry q => ?_, m2, a :: k1, k2, by rw [m3]; simp⟩
    obtain ⟨H0, ot, g⟩ := dictAt hH hu ry ok hj m1
    exact .inr (.inr ⟨a, H0, ve, rfl, ot, g, q⟩)
variable {a b : Expr} {fo : M O} {fk : M D} {pos : Pos}
theorem de_ixT (hu : X.A.units + 1 < cLine) (h1 : DE X a fo) (hk : Still X b fk) (hs : PlainIx b := by exact fun _ _ => rfl) : DE X (.Subscript a b pos) (M.bind fo fun o => M.bind fk fun k => M.lift (atOS o k)) := by
  refine ⟨fun W tk σ H Γ fp rest Q S hW => we (pe_ix ((ix_O hu).or (od_ixD hu)) pe_w pe_w hs) ?_⟩
  refine h1.thn tk S hW fun o Γ1 v H1 f fp1 S1 R1 G1 hW1 => ?_
  unfold M.bind at hW1
  cases hfk : fk Γ1 with
  | none => rw [hfk] at hW1; exact hW1.elim
  | some r =>
    obtain ⟨r, Γ2⟩ := r
    cases r with
    | ex ε => exact absurd hfk (hk.noex Γ1 ε Γ2)
    | ok k =>
      have e1 := hk.same Γ1 k Γ2 hfk
      rw [e1] at hfk
      rw [hfk] at hW1
      obtain ⟨o1, e, hW1⟩ := Wp.lift1 hW1
      refine hk.run W tk σ H1 Γ1 fp1 (f ++ rest) _ k Γ1 S1 hfk fun y H2 kp R2 => ?_
      have S2 := S1.grow kp
      have R1' : RepO (fp1 ++ (f ++ rest)) H2 o v f := R1.stay (fun c u ec n => ⟨kp c u ec, n⟩) fun c u ec _ => kp c u ec
      have fin : atO o k = some o1 → (rIxO X v y H2 Q ∨ rDD dIx v y H2 Q) := fun ek => by
        obtain ⟨v1, f1, get, R3, p1, p2, hf⟩ := R1'.elemV (X := X) ek
        refine .inl (get _ y Q R2 ?_)
        have cle : ∀ b, (fp1 ++ (f1 ++ rest)).count b ≤ (fp1 ++ (f ++ rest)).count b := fun b => by
          rw [hf]; simp only [List.count_append]; omega
        have sub : ∀ b ∈ fp1 ++ (f1 ++ rest), b ∈ fp1 ++ (f ++ rest) := fun b h => cnt_mem cle h
        refine Wp.done (a := o1) (Γ := Γ1) hW1 (fo := f1) (fp' := fp1) ⟨S2.env.congr sub, cnt_nodup S2.nd cle, fun a h => S2.trk a (sub a h)⟩ (R3.congr sub) ⟨fun b u e _ => kp b u e, fun b h => .inl ?_⟩
        rw [hf]
        simp only [List.mem_append] at h ⊢
        rcases h with h | h
        · exact .inl (.inl (.inr h))
        · exact .inr h
      cases o with
      | sh d =>
        obtain ⟨d', e2, e3⟩ := Option.map_eq_some_iff.mp (show (dIx d k).map O.sh = some o1 from e)
        subst e3
        cases R1' with
        | sh rd =>
          refine .inr ⟨fp1 ++ ([] ++ rest), d, k, d', rd, R2, e2, fun b hb => S2.fresh hb, fun w H3 kp3 r3 => ?_⟩
          exact Wp.done (a := O.sh d') (Γ := Γ1) hW1 (fo := []) (fp' := fp1) (S2.grow kp3) (.sh r3) ((Go.grow kp fp1).trans (Go.grow kp3 fp1))
      | lst os => exact fin e
      | tup os => exact fin e
      | dic kvs => exact fin e
end
end DS
namespace DS
open PySem PySem.Spec PyProof.Rows L2
/-! ### x += e, x -= e of whole numbers -/
def dIAdd : D → D → Option D
  | .int i, .int j => some (.int (i + j))
  | _, _ => none
def dISub : D → D → Option D
  | .int i, .int j => some (.int (i - j))
  | _, _ => none
section
variable {X : Cx}
theorem od_iadd : OpD X (inplaceOp .Add) dIAdd := by
  intro pins s σ H x y v u Q I rx ry h
  obtain ⟨A, dx, dy, d, r1, r2, e, na, q⟩ := h
  cases dx with
  | int i => cases dy with
    | int j => cases e; cases r1; cases r2; exact iop_add pins s σ H _ _ v u Q I rx ry ⟨i, j, rfl, rfl, q _ _ (fun _ _ h => h) (.int _)⟩
    | _ => cases e
  | _ => cases e
theorem od_isub : OpD X (inplaceOp .Sub) dISub := by
  intro pins s σ H x y v u Q I rx ry h
  obtain ⟨A, dx, dy, d, r1, r2, e, na, q⟩ := h
  cases dx with
  | int i => cases dy with
    | int j => cases e; cases r1; cases r2; exact iop_sub pins s σ H _ _ v u Q I rx ry ⟨i, j, rfl, rfl, q _ _ (fun _ _ h => h) (.int _)⟩
    | _ => cases e
  | _ => cases e
end
end DS
namespace DS
open PySem PySem.Spec PyProof.Rows L2
/-! ### what a statement, an expression brings about -/
def wp (f : SF) (Γ : Env) (Q : Fl → Env → Prop) : Prop := ∃ r Γ', f Γ = some (r, Γ') ∧ Q r Γ'
def wpM {α : Type} (x : M α) (Γ : Env) (Q : Out α → Env → Prop) : Prop := ∃ r Γ', x Γ = some (r, Γ') ∧ Q r Γ'
/-- what follows a statement -/
def thenQ (A : Env → Prop) (Q : Fl → Env → Prop) : Fl → Env → Prop
  | .nx, Γ => A Γ
  | r, Γ => Q r Γ
/-- what follows a value -/
def okQ {α : Type} (A : α → Env → Prop) (Q : Xn → Env → Prop) : Out α → Env → Prop
  | .ok a, Γ => A a Γ
  | .ex e, Γ => Q e Γ
def exS (Q : Fl → Env → Prop) : Xn → Env → Prop := fun e Γ => Q (.ex e) Γ
def exM {α : Type} (Q : Out α → Env → Prop) : Xn → Env → Prop := fun e Γ => Q (.ex e) Γ
/-- a loop's turn -/
def turnQ (A : Env → Prop) (Q : Fl → Env → Prop) : Fl → Env → Prop
  | .nx, Γ => A Γ
  | .ct, Γ => A Γ
  | .bk, Γ => Q .nx Γ
  | .rt o, Γ => Q (.rt o) Γ
  | .ex e, Γ => Q (.ex e) Γ
/-- a def's end -/
def retQ (P : Out O → Prop) : Fl → Env → Prop
  | .rt o, _ => P (.ok o)
  | .nx, _ => P (.ok (.sh .none))
  | .ex e, _ => P (.ex e)
  | _, _ => False
section
variable {α β : Type} {f g : SF} {Γ Γ1 : Env} {Q : Fl → Env → Prop} {R : Out α → Env → Prop}
theorem wp_mono {Q' : Fl → Env → Prop} (h : wp f Γ Q) (i : ∀ r Γ', Q r Γ' → Q' r Γ') : wp f Γ Q' := by
  obtain ⟨r, Γ', e, q⟩ := h; exact ⟨r, Γ', e, i _ _ q⟩
theorem wp_run {r : Fl} {Γ' : Env} (e : f Γ = some (r, Γ')) (q : Q r Γ') : wp f Γ Q := ⟨r, Γ', e, q⟩
theorem wpM_run {x : M α} {r : Out α} {Γ' : Env} (e : x Γ = some (r, Γ')) (q : R r Γ') : wpM x Γ R := ⟨r, Γ', e, q⟩
theorem wp_seq (h : wp f Γ (thenQ (fun Γ1 => wp g Γ1 Q) Q)) : wp (Sf.seq f g) Γ Q := by
  obtain ⟨r, Γ1, e, q⟩ := h
  cases r with
  | nx =>
    obtain ⟨r2, Γ2, e2, q2⟩ := q
    exact ⟨r2, Γ2, by rw [run_seq, e]; exact e2, q2⟩
  | _ => exact ⟨_, Γ1, by rw [run_seq, e], q⟩
theorem wp_of {x : M α} {k : α → SF} (h : wpM x Γ (okQ (fun a Γ1 => wp (k a) Γ1 Q) (exS Q))) : wp (Sf.of x k) Γ Q := by
  obtain ⟨r, Γ1, e, q⟩ := h
  cases r with
  | ok a =>
    obtain ⟨r2, Γ2, e2, q2⟩ := q
    exact ⟨r2, Γ2, by rw [run_of, e]; exact e2, q2⟩
  | ex ε => exact ⟨.ex ε, Γ1, by rw [run_of, e], q⟩
theorem wpM_bind {x : M β} {k : β → M α} (h : wpM x Γ (okQ (fun a Γ1 => wpM (k a) Γ1 R) (exM R))) : wpM (M.bind x k) Γ R := by
  obtain ⟨r, Γ1, e, q⟩ := h
  cases r with
  | ok a =>
    obtain ⟨r2, Γ2, e2, q2⟩ := q
    exact ⟨r2, Γ2, by rw [run_bind, e]; exact e2, q2⟩
  | ex ε => exact ⟨.ex ε, Γ1, by rw [run_bind, e], q⟩
theorem wpM_map {x : M β} {k : β → α} (h : wpM x Γ (okQ (fun a Γ1 => R (.ok (k a)) Γ1) (exM R))) : wpM (M.map k x) Γ R := by
  obtain ⟨r, Γ1, e, q⟩ := h
  cases r with
  | ok a => exact ⟨_, _, by rw [run_map, e], q⟩
  | ex ε => exact ⟨.ex ε, Γ1, by rw [run_map, e], q⟩
theorem wp_ite {c : M Bool} (h : wpM c Γ (okQ (fun k Γ1 => (k = true → wp f Γ1 Q) ∧ (k = false → wp g Γ1 Q)) (exS Q))) : wp (Sf.ite c f g) Γ Q := by
  obtain ⟨r, Γ1, e, q⟩ := h
  cases r with
  | ok k =>
    cases k with
    | true =>
      obtain ⟨r2, Γ2, e2, q2⟩ := q.1 rfl
      exact ⟨r2, Γ2, by rw [run_ite, e]; exact e2, q2⟩
    | false =>
      obtain ⟨r2, Γ2, e2, q2⟩ := q.2 rfl
      exact ⟨r2, Γ2, by rw [run_ite, e]; exact e2, q2⟩
  | ex ε => exact ⟨.ex ε, Γ1, by rw [run_ite, e], q⟩
theorem wpM_pureT {m : M Bool} {R : Out Bool → Env → Prop} (h : wpM m (er Γ) (okQ (fun b _ => R (.ok b) Γ) (fun _ _ => False))) : wpM (M.pureT m) Γ R := by
  obtain ⟨r, Γ1, e, q⟩ := h
  cases r with
  | ok b => exact ⟨.ok b, Γ, by rw [run_pureT, e], q⟩
  | ex _ => exact q.elim
theorem wpM_pureS {m : M D} {R : Out D → Env → Prop} (h : wpM m (er Γ) (okQ (fun b _ => scal b = true ∧ R (.ok b) Γ) (fun _ _ => False))) : wpM (M.pureS m) Γ R := by
  obtain ⟨r, Γ1, e, q⟩ := h
  cases r with
  | ok b => exact ⟨.ok b, Γ, by rw [run_pureS, e]; simp only [if_pos q.1], q.2⟩
  | ex _ => exact q.elim
theorem wpM_ifT {c : Prop} [Decidable c] {m m' : M α} (hc : c) (h : wpM m Γ R) : wpM (if c then m else m') Γ R := by rw [if_pos hc]; exact h
theorem wpM_ifF {c : Prop} [Decidable c] {m m' : M α} (hc : ¬ c) (h : wpM m' Γ R) : wpM (if c then m else m') Γ R := by rw [if_neg hc]; exact h
theorem wpM_ifTt {m m' : M α} (h : wpM m Γ R) : wpM (if true = true then m else m') Γ R := h
theorem wpM_ifFf {m m' : M α} (h : wpM m' Γ R) : wpM (if false = true then m else m') Γ R := h
theorem wpM_isL {i : Nat} {m : M α} {os : List O} (e : Γ[i]? = some (some (.lst os))) (h : wpM m Γ R) : wpM (M.isL i m) Γ R := by
  obtain ⟨r, Γ1, e1, q⟩ := h
  exact ⟨r, Γ1, by rw [run_isL, e]; exact e1, q⟩
theorem wpM_has {i : Nat} {m : M α} {o : O} (e : Γ[i]? = some (some o)) (h : wpM m Γ R) : wpM (M.has i m) Γ R := by
  obtain ⟨r, Γ1, e1, q⟩ := h
  exact ⟨r, Γ1, by unfold M.has; rw [e]; exact e1, q⟩
theorem wp_has {i : Nat} {o : O} (e : Γ[i]? = some (some o)) (h : wp f Γ Q) : wp (Sf.has i f) Γ Q := by
  obtain ⟨r, Γ1, e1, q⟩ := h
  exact ⟨r, Γ1, by rw [run_has, e]; exact e1, q⟩
theorem bt_case {A B : Prop} (h : A) : (true = true → A) ∧ (true = false → B) := ⟨fun _ => h, fun q => by cases q⟩
theorem bf_case {A B : Prop} (h : B) : (false = true → A) ∧ (false = false → B) := ⟨fun q => Bool.noConfusion q, fun _ => h⟩
theorem okQ_ok {A : α → Env → Prop} {E : Xn → Env → Prop} {a : α} (h : A a Γ) : okQ A E (.ok a) Γ := h
theorem okQ_ex {A : α → Env → Prop} {E : Xn → Env → Prop} {ε : Xn} (h : E ε Γ) : okQ A E (.ex ε) Γ := h
theorem thenQ_nx {A : Env → Prop} (h : A Γ) : thenQ A Q .nx Γ := h
theorem thenQ_rt {A : Env → Prop} {o : O} (h : Q (.rt o) Γ) : thenQ A Q (.rt o) Γ := h
theorem thenQ_ct {A : Env → Prop} (h : Q .ct Γ) : thenQ A Q .ct Γ := h
theorem thenQ_bk {A : Env → Prop} (h : Q .bk Γ) : thenQ A Q .bk Γ := h
theorem thenQ_ex {A : Env → Prop} {ε : Xn} (h : Q (.ex ε) Γ) : thenQ A Q (.ex ε) Γ := h
theorem turnQ_nx {A : Env → Prop} (h : A Γ) : turnQ A Q .nx Γ := h
theorem turnQ_ct {A : Env → Prop} (h : A Γ) : turnQ A Q .ct Γ := h
theorem turnQ_bk {A : Env → Prop} (h : Q .nx Γ) : turnQ A Q .bk Γ := h
theorem turnQ_rt {A : Env → Prop} {o : O} (h : Q (.rt o) Γ) : turnQ A Q (.rt o) Γ := h
theorem turnQ_ex {A : Env → Prop} {ε : Xn} (h : Q (.ex ε) Γ) : turnQ A Q (.ex ε) Γ := h
theorem retQ_rt {P : Out O → Prop} {o : O} (h : P (.ok o)) : retQ P (.rt o) Γ := h
theorem retQ_nx {P : Out O → Prop} (h : P (.ok (.sh .none))) : retQ P .nx Γ := h
theorem retQ_ex {P : Out O → Prop} {ε : Xn} (h : P (.ex ε)) : retQ P (.ex ε) Γ := h
/-- a def by its body -/
theorem runF_wp {n : Nat} {ds : List D} {P : Out O → Prop} (h : wp f (env0 n ds) (retQ P)) : ∃ r, runF n f ds = some r ∧ P r := by
  obtain ⟨r, Γ', e, q⟩ := h
  rw [run_F, e]
  cases r with
  | rt o => exact ⟨_, rfl, q⟩
  | nx => exact ⟨_, rfl, q⟩
  | ex ε => exact ⟨_, rfl, q⟩
  | bk => exact q.elim
  | ct => exact q.elim
theorem runF_ok {n : Nat} {ds : List D} {o : O} (h : wp f (env0 n ds) (retQ fun r => r = .ok o)) : runF n f ds = some (.ok o) := by
  obtain ⟨r, e, rfl⟩ := runF_wp h; exact e
/-- a def that changes its first argument -/
def retM (P : O → O → Prop) : Fl → Env → Prop
  | .rt r, Γ => ∃ o', Γ[0]? = some (some o') ∧ P r o'
  | .nx, Γ => ∃ o', Γ[0]? = some (some o') ∧ P (.sh .none) o'
  | _, _ => False
theorem retM_rt {P : O → O → Prop} {o o' : O} (e : Γ[0]? = some (some o') := by rfl) (h : P o o') : retM P (.rt o) Γ := ⟨o', e, h⟩
theorem retM_nx {P : O → O → Prop} {o' : O} (e : Γ[0]? = some (some o') := by rfl) (h : P (.sh .none) o') : retM P .nx Γ := ⟨o', e, h⟩
theorem runM_wp {n : Nat} {o : O} {ds : List D} {P : O → O → Prop} (h : wp f (envM n o ds) (retM P)) : ∃ r o', runM n f o ds = some (r, o') ∧ P r o' := by
  obtain ⟨r, Γ', e, q⟩ := h
  rw [run_Mm, e]
  cases r with
  | rt o => obtain ⟨o', e', q⟩ := q; exact ⟨_, o', by simp [e'], q⟩
  | nx => obtain ⟨o', e', q⟩ := q; exact ⟨_, o', by simp [e'], q⟩
  | ex ε => exact q.elim
  | bk => exact q.elim
  | ct => exact q.elim
end
/-! ### loops -/
theorem wp_for {g : D → Env → Option Env} {body : SF} {Q : Fl → Env → Prop} (I : List D → Env → Prop)
    (step : ∀ d ds Γ, I (d :: ds) Γ → ∃ Γ1, g d Γ = some Γ1 ∧ wp body Γ1 (turnQ (I ds) Q)) (fin : ∀ Γ, I [] Γ → Q .nx Γ) :
    ∀ (ds : List D) (Γ : Env), I ds Γ → wp (forS g body ds) Γ Q
  | [], Γ, h => ⟨.nx, Γ, rfl, fin Γ h⟩
  | d :: ds, Γ, h => by
    obtain ⟨Γ1, h1, r, Γ2, h2, h3⟩ := step d ds Γ h
    have go : I ds Γ2 → forS g body (d :: ds) Γ = forS g body ds Γ2 → wp (forS g body (d :: ds)) Γ Q := fun i e => by
      obtain ⟨r, Γ', e', q⟩ := wp_for I step fin ds Γ2 i
      exact ⟨r, Γ', e.trans e', q⟩
    cases r with
    | nx => exact go h3 (by rw [forS, h1]; simp only [h2])
    | ct => exact go h3 (by rw [forS, h1]; simp only [h2])
    | bk => exact ⟨.nx, Γ2, by rw [forS, h1]; simp only [h2], h3⟩
    | rt o => exact ⟨.rt o, Γ2, by rw [forS, h1]; simp only [h2], h3⟩
    | ex e => exact ⟨.ex e, Γ2, by rw [forS, h1]; simp only [h2], h3⟩
/-- over items that are told by values -/
theorem wp_forE {α : Type} {g : D → Env → Option Env} {body : SF} {Q : Fl → Env → Prop} {Γ : Env} {ds : List D} (enc : α → D) (xs : List α) (I : List α → Env → Prop)
    (hd : ds = xs.map enc) (h0 : I xs Γ) (step : ∀ x rest Γ, I (x :: rest) Γ → ∃ Γ1, g (enc x) Γ = some Γ1 ∧ wp body Γ1 (turnQ (I rest) Q)) (fin : ∀ Γ, I [] Γ → Q .nx Γ) : wp (forS g body ds) Γ Q := by
  subst hd
  refine wp_for (fun ds Γ => ∃ ys, ds = ys.map enc ∧ I ys Γ) (fun d ds Γ h => ?_) (fun Γ h => ?_) _ Γ ⟨xs, rfl, h0⟩
  · obtain ⟨ys, e, h⟩ := h
    cases ys with
    | nil => cases e
    | cons y ys =>
      cases e
      obtain ⟨Γ1, h1, h2⟩ := step y ys Γ h
      refine ⟨Γ1, h1, wp_mono h2 fun r Γ' q => ?_⟩
      cases r <;> first | exact ⟨ys, rfl, q⟩ | exact q
  · obtain ⟨ys, e, h⟩ := h
    cases ys with
    | nil => exact fin Γ h
    | cons y ys => cases e
/-- while: a measure falls -/
theorem wp_while {c : M Bool} {body : SF} {Q : Fl → Env → Prop} (I : Nat → Env → Prop)
    (step : ∀ n Γ, I n Γ → wpM c Γ (okQ (fun k Γ1 => (k = true → wp body Γ1 (turnQ (fun Γ2 => ∃ m, m < n ∧ I m Γ2) Q)) ∧ (k = false → Q .nx Γ1)) (exS Q)))
    (n : Nat) (Γ : Env) (h0 : I n Γ) : wp (whileS c body) Γ Q := by
  have key : ∀ n Γ, I n Γ → ∃ k r Γ', whileN c body k Γ = some (r, Γ') ∧ Q r Γ' := by
    intro n
    induction n using Nat.strongRecOn with
    | _ n ih =>
      intro Γ h
      obtain ⟨r, Γ1, e, q⟩ := step n Γ h
      cases r with
      | ex ε => exact ⟨1, .ex ε, Γ1, by unfold whileN; simp [e], q⟩
      | ok k =>
        cases k with
        | false => exact ⟨1, .nx, Γ1, by unfold whileN; simp [e], q.2 rfl⟩
        | true =>
          obtain ⟨r2, Γ2, e2, q2⟩ := q.1 rfl
          have go : (∃ m, m < n ∧ I m Γ2) → (∀ j, whileN c body (j + 1) Γ = whileN c body j Γ2) → ∃ k r Γ', whileN c body k Γ = some (r, Γ') ∧ Q r Γ' := fun ⟨m, hm, i⟩ ee => by
            obtain ⟨k, r, Γ', e', q'⟩ := ih m hm Γ2 i
            exact ⟨k + 1, r, Γ', (ee k).trans e', q'⟩
          cases r2 with
          | nx => exact go q2 fun j => by rw [whileN]; simp [e, e2]
          | ct => exact go q2 fun j => by rw [whileN]; simp [e, e2]
          | bk => exact ⟨1, .nx, Γ2, by unfold whileN; simp [e, e2], q2⟩
          | rt o => exact ⟨1, .rt o, Γ2, by unfold whileN; simp [e, e2], q2⟩
          | ex ε => exact ⟨1, .ex ε, Γ2, by unfold whileN; simp [e, e2], q2⟩
  obtain ⟨k, r, Γ', e, q⟩ := key n Γ h0
  refine ⟨r, Γ', ?_, q⟩
  exact whileS_of e
/-! ### comprehensions -/
/-- each item told by a value -/
theorem wpM_comp {α : Type} {vs : List Nat} {fi : M (List D)} {g : D → Env → Option Env} {ifs : M Bool} {elt : M O} {Γ Γ1 : Env} {R : Out O → Env → Prop} {ds : List D} (enc : α → D) (xs : List α)
    (I : List α → List O → Env → Prop)
    (hf : fi Γ = some (.ok ds, Γ1)) (hd : ds = xs.map enc) (h0 : I xs [] (wipeE Γ1 vs))
    (step : ∀ x rest acc Γ, I (x :: rest) acc Γ → acc.length < 16777216 ∧ ∃ Γ1 Γ2 k, g (enc x) Γ = some Γ1 ∧ ifs Γ1 = some (.ok k, Γ2) ∧ ((k = false ∧ I rest acc (wipeE Γ2 vs)) ∨ (k = true ∧ ∃ o Γ3, elt Γ2 = some (.ok o, Γ3) ∧ I rest (acc ++ [o]) (wipeE Γ3 vs))))
    (fin : ∀ l Γ', I [] l Γ' → R (.ok (.lst l)) (backE Γ1 Γ' vs)) : wpM (compM vs fi g ifs elt) Γ R := by
  subst hd
  obtain ⟨l, Γ', e, i⟩ := compL_inv (vs := vs) (g := g) (ifs := ifs) (elt := elt) (fun ds acc Γ => ∃ ys, ds = ys.map enc ∧ I ys acc Γ) (fun d ds acc Γ h => by
    obtain ⟨ys, e, h⟩ := h
    cases ys with
    | nil => cases e
    | cons y ys =>
      cases e
      obtain ⟨hl, Γ1, Γ2, k, h1, h2, h3⟩ := step y ys acc Γ h
      refine ⟨hl, Γ1, Γ2, k, h1, h2, ?_⟩
      rcases h3 with ⟨rfl, h3⟩ | ⟨rfl, o, Γ3, h4, h5⟩
      · exact .inl ⟨rfl, ys, rfl, h3⟩
      · exact .inr ⟨rfl, o, Γ3, h4, ys, rfl, h5⟩) (xs.map enc) [] (wipeE Γ1 vs) ⟨xs, rfl, h0⟩
  obtain ⟨ys, e1, i⟩ := i
  cases ys with
  | cons _ _ => cases e1
  | nil =>
    refine ⟨_, _, ?_, fin l Γ' i⟩
    rw [run_comp, hf]
    simp only [e]
/-- a comprehension without a test that changes nothing -/
theorem wpM_compMap {α : Type} {vs : List Nat} {fi : M (List D)} {g : D → Env → Option Env} {elt : M O} {Γ Γ1 : Env} {R : Out O → Env → Prop} {ds : List D} (enc : α → D) (xs : List α) (f : α → O)
    (hf : fi Γ = some (.ok ds, Γ1)) (hd : ds = xs.map enc) (hl : xs.length ≤ 16777216)
    (step : ∀ x ∈ xs, ∃ Γ2 Γ3, g (enc x) (wipeE Γ1 vs) = some Γ2 ∧ elt Γ2 = some (.ok (f x), Γ3) ∧ wipeE Γ3 vs = wipeE Γ1 vs)
    (fin : R (.ok (.lst (xs.map f))) (backE Γ1 (wipeE Γ1 vs) vs)) : wpM (compM vs fi g (M.pure true) elt) Γ R := by
  refine wpM_comp enc xs (fun rest acc Γ => (∃ done, done ++ rest = xs ∧ acc = done.map f) ∧ Γ = wipeE Γ1 vs) hf hd ⟨⟨[], rfl, rfl⟩, rfl⟩ (fun x rest acc Γ h => ?_) (fun l Γ' h => ?_)
  · obtain ⟨⟨done, e, rfl⟩, rfl⟩ := h
    subst e
    obtain ⟨Γ2, Γ3, h1, h2, h3⟩ := step x (by simp)
    refine ⟨by simp at hl ⊢; omega, Γ2, Γ2, true, h1, rfl, .inr ⟨rfl, _, Γ3, h2, ⟨done ++ [x], by simp, by simp⟩, h3⟩⟩
  · obtain ⟨⟨done, e, rfl⟩, rfl⟩ := h
    rw [List.append_nil] at e; subst e
    exact fin
/-- a comprehension with a test -/
theorem wpM_compIf {α : Type} {vs : List Nat} {fi : M (List D)} {g : D → Env → Option Env} {ifs : M Bool} {elt : M O} {Γ Γ1 : Env} {R : Out O → Env → Prop} {ds : List D} (enc : α → D) (xs : List α) (p : α → Bool) (f : α → O)
    (hf : fi Γ = some (.ok ds, Γ1)) (hd : ds = xs.map enc) (hl : xs.length ≤ 16777216)
    (step : ∀ x ∈ xs, ∃ Γ2 Γ3, g (enc x) (wipeE Γ1 vs) = some Γ2 ∧ ifs Γ2 = some (.ok (p x), Γ3) ∧ (p x = false → wipeE Γ3 vs = wipeE Γ1 vs) ∧ (p x = true → ∃ Γ4, elt Γ3 = some (.ok (f x), Γ4) ∧ wipeE Γ4 vs = wipeE Γ1 vs))
    (fin : R (.ok (.lst ((xs.filter p).map f))) (backE Γ1 (wipeE Γ1 vs) vs)) : wpM (compM vs fi g ifs elt) Γ R := by
  refine wpM_comp enc xs (fun rest acc Γ => (∃ done, done ++ rest = xs ∧ acc = (done.filter p).map f) ∧ Γ = wipeE Γ1 vs) hf hd ⟨⟨[], rfl, rfl⟩, rfl⟩ (fun x rest acc Γ h => ?_) (fun l Γ' h => ?_)
  · obtain ⟨⟨done, e, rfl⟩, rfl⟩ := h
    subst e
    obtain ⟨Γ2, Γ3, h1, h2, h3, h4⟩ := step x (by simp)
    refine ⟨?_, Γ2, Γ3, p x, h1, h2, ?_⟩
    · have := List.length_filter_le p done
      simp at hl ⊢; omega
    · cases hp : p x with
      | false => exact .inl ⟨rfl, ⟨done ++ [x], by simp, by simp [hp]⟩, h3 hp⟩
      | true =>
        obtain ⟨Γ4, h5, h6⟩ := h4 hp
        exact .inr ⟨rfl, _, Γ4, h5, ⟨done ++ [x], by simp, by simp [hp]⟩, h6⟩
  · obtain ⟨⟨done, e, rfl⟩, rfl⟩ := h
    rw [List.append_nil] at e; subst e
    exact fin
end DS
namespace DS
open PySem PySem.Spec PyProof.Rows L2
theorem ite_out {α : Type} {c : Prop} [Decidable c] {a b : α} {Γ : Env} : (if c then some (Out.ok a, Γ) else some (Out.ok b, Γ)) = some (Out.ok (if c then a else b), Γ) := by split <;> rfl
theorem x_mkT' {l : List O} (h : l.length ≤ 16777216) : mkT l = some (.tup l) := if_pos h
theorem x_mkL' {l : List O} (h : l.length ≤ 16777216) : mkL l = some (.lst l) := if_pos h
theorem x_mkDL' {l : List D} (h : l.length ≤ 16777216) : mkDL l = some (.list l) := if_pos h
theorem x_mkDT' {l : List D} (h : l.length ≤ 16777216) : mkDT l = some (.tuple l) := if_pos h
theorem x_append' {os : List O} {y : O} (h : os.length < 16777216) : opAppend y os = some (.sh .none, os ++ [y]) := if_pos h
theorem x_range1' {n : Nat} (h : n < 2 ^ 62) : range1D [.int (n : Int)] = some ((List.range n).map fun (i : Nat) => .int (i : Int)) := by
  rw [x_range1 (by omega) (by omega)]
  simp
theorem x_ixI {l : List D} {i : Int} : dIx (.list l) (.int i) = atI l i := Eq.trans rfl rfl
theorem x_ixIT {l : List D} {i : Int} : dIx (.tuple l) (.int i) = atI l i := Eq.trans rfl rfl
theorem atI_N {α : Type} {l : List α} {i : Nat} : atI l (i : Int) = l[i]? := by
  unfold atI ixN
  by_cases h : i < l.length
  · rw [if_pos (by omega), if_pos (by omega)]; rfl
  · rw [if_pos (by omega), if_neg (by omega)]
    rw [List.getElem?_eq_none (by omega)]; rfl
theorem atI_int {α : Type} {l : List α} {i : Int} (h : 0 ≤ i) : atI l i = l[i.toNat]? := by
  have := atI_N (l := l) (i := i.toNat)
  rwa [Int.toNat_of_nonneg h] at this
theorem x_notB (b : Bool) : dNot (.bool b) = some (.bool (!b)) := Eq.trans rfl rfl
theorem x_scalI (i : Int) : scal (.int i) = true := Eq.trans rfl rfl
theorem x_scalB (i : Bool) : scal (.bool i) = true := Eq.trans rfl rfl
theorem x_scalS (i : Str) : scal (.str i) = true := Eq.trans rfl rfl
theorem x_scalN : scal .none = true := Eq.trans rfl rfl
theorem setL_nat {os : List O} {i : Nat} {o : O} (h : i < os.length) : setL os (i : Int) o = some (os.set i o) := by
  unfold setL ixN
  rw [if_pos (by omega), if_pos (by omega)]; rfl
theorem x_setIxL {os : List O} {i : Nat} {o : O} (h : i < os.length) : setO (.lst os) (.int (i : Int)) o = some (.lst (os.set i o)) := by
  show (setL os i o).map O.lst = _
  rw [setL_nat h]; rfl
theorem x_oRg1 {n : Nat} (h : n ≤ 16777216) : oRg1 (.int (n : Int)) = some (.lst ((List.range n).map fun (i : Nat) => .sh (.int (i : Int)))) := by
  have e : rgOk 0 (n : Int) = true := by unfold rgOk; refine decide_eq_true ?_; omega
  unfold oRg1
  simp only []
  rw [if_pos e]
  unfold rgD
  simp
theorem x_popAt {os : List O} {i : Nat} {o : O} (h : os[i]? = some o) (hl : i < 2 ^ 63) : opPopAt (i : Int) os = some (o, os.eraseIdx i) := by
  have hh := (List.getElem?_eq_some_iff.mp h).1
  unfold opPopAt
  rw [if_pos (by omega)]
  have : seqIndex? (i : Int) os.length = some i := by unfold seqIndex?; simp; omega
  rw [this]
  simp [h]
theorem eraseIdx_map' {α β : Type} (f : α → β) : ∀ (l : List α) (i : Nat), (l.map f).eraseIdx i = (l.eraseIdx i).map f
  | [], _ => rfl
  | _ :: l, 0 => rfl
  | a :: l, i + 1 => by rw [List.map_cons, List.eraseIdx_cons_succ, List.eraseIdx_cons_succ, List.map_cons, eraseIdx_map' f l i]
theorem perm_eraseIdx {α : Type} : ∀ (l : List α) (i : Nat) (h : i < l.length), (l[i] :: l.eraseIdx i).Perm l
  | a :: l, 0, _ => List.Perm.refl _
  | a :: l, i + 1, h => by
    have h' : i < l.length := by simpa using h
    rw [List.eraseIdx_cons_succ, List.getElem_cons_succ]
    exact (List.Perm.swap a l[i] _).trans (List.Perm.cons a (perm_eraseIdx l i h'))
theorem x_addL {xs ys : List D} (h : xs.length + ys.length ≤ 16777216) : dAdd (.list xs) (.list ys) = some (.list (xs ++ ys)) := if_pos h
theorem x_addS {xs ys : Str} (h : xs.length + ys.length ≤ 16777216) : dAdd (.str xs) (.str ys) = some (.str (xs ++ ys)) := if_pos h
theorem x_addT {xs ys : List D} (h : xs.length + ys.length ≤ 16777216) (h0 : xs ≠ []) : dAdd (.tuple xs) (.tuple ys) = some (.tuple (xs ++ ys)) := if_pos ⟨h, h0⟩
theorem x_mulL {xs : List D} {k : Int} (h0 : 0 ≤ k) (h1 : k ≤ 16777216) (h : xs.length * k.toNat ≤ 16777216) : dMul (.list xs) (.int k) = some (.list (List.replicate k.toNat xs).flatten) :=
  if_pos ⟨Int.lt_of_le_of_lt h1 (by decide), Int.lt_of_lt_of_le (by decide) h0, h⟩
theorem x_mulL1 {x : D} {k : Int} (h0 : 0 ≤ k) (h1 : k ≤ 16777216) : dMul (.list [x]) (.int k) = some (.list (List.replicate k.toNat x)) := by
  rw [x_mulL h0 h1 (by simp only [List.length_singleton]; omega)]
  congr 2
  induction k.toNat with
  | zero => rfl
  | succ n ih => rw [List.replicate_succ, List.flatten_cons, ih, List.replicate_succ]; rfl
theorem x_pow {i j : Int} (h0 : 0 ≤ j) (h1 : j ≤ 1000000) (h : i.natAbs < 18446744073709551616) : dPow (.int i) (.int j) = some (.int (i ^ j.toNat)) := if_pos ⟨h0, h1, h⟩
theorem x_pow18 : dPow (.int 10) (.int 18) = some (.int 1000000000000000000) := (x_pow (by decide) (by decide) (by decide)).trans (by simp)
theorem x_sortedL {xs : List D} (h : sortOk xs = true) : oSorted [.list xs] = some (.lst ((sortD xs).map .sh)) := if_pos h
theorem x_sortedK {kvs : List (D × D)} (h : sortOk (kvs.map (·.1)) = true) : oSorted [.dict kvs] = some (.lst ((sortD (kvs.map (·.1))).map .sh)) := if_pos h
theorem x_range2' {i j : Nat} (h : i < 2 ^ 62) (h' : j < 2 ^ 62) : range2D [.int (i : Int), .int (j : Int)] = some ((List.range (j - i)).map fun (k : Nat) => .int ((i + k : Nat) : Int)) := by
  refine (if_pos ⟨decide_eq_true (by omega), decide_eq_true (by omega)⟩).trans ?_
  rw [show ((j : Int) - (i : Int)).toNat = j - i by omega]
  congr 2
theorem x_eq {a b : D} (h : fit 12 a = true) (h' : fit 12 b = true) : dEq a b = some (.bool (PyData.eqv a b)) := if_pos ⟨h, h'⟩
theorem x_ne {a b : D} (h : fit 12 a = true) (h' : fit 12 b = true) : dNe a b = some (.bool (!PyData.eqv a b)) := if_pos ⟨h, h'⟩
theorem x_repr {d : D} (h : fit 12 d = true) (h1 : d.showable = true) (h2 : d.shown.length ≤ 16777216) : bRepr [d] = some (.str d.shown) := if_pos ⟨h, h1, h2⟩
theorem wipeE_nil (Γ : Env) : wipeE Γ [] = Γ := Eq.trans rfl rfl
theorem wipeE_cons (Γ : Env) (v : Nat) (vs : List Nat) : wipeE Γ (v :: vs) = (wipeE Γ vs).set v none := Eq.trans rfl rfl
theorem backE_nil (Γ0 Γ : Env) : backE Γ0 Γ [] = Γ := Eq.trans rfl rfl
theorem backE_cons (Γ0 Γ : Env) (v : Nat) (vs : List Nat) : backE Γ0 Γ (v :: vs) = match Γ0[v]? with | some (some (.sh d)) => (backE Γ0 Γ vs).set v (some (.sh d)) | _ => (backE Γ0 Γ vs).set v none := by
  rw [backE] <;> rfl
theorem em_nil : List.map (fun d : D => some (O.sh d)) [] = [] := Eq.trans rfl rfl
theorem em_cons (d : D) (ds : List D) : List.map (fun d : D => some (O.sh d)) (d :: ds) = some (O.sh d) :: List.map (fun d : D => some (O.sh d)) ds := Eq.trans rfl rfl
theorem ea_nil (Γ : List (Option O)) : [] ++ Γ = Γ := Eq.trans rfl rfl
theorem ea_cons (o : Option O) (Γ Δ : List (Option O)) : (o :: Γ) ++ Δ = o :: (Γ ++ Δ) := Eq.trans rfl rfl
/-! ### encodings -/
abbrev nD (n : Nat) : D := .int (n : Int)
abbrev nO (n : Nat) : O := .sh (.int (n : Int))
abbrev iO (n : Int) : O := .sh (.int n)
abbrev sI (n : Int) : Option O := some (.sh (.int n))
abbrev sN (n : Nat) : Option O := some (.sh (.int (n : Int)))
abbrev sD (d : D) : Option O := some (.sh d)
abbrev LI (l : List Int) : D := .list (l.map .int)
abbrev LN (l : List Nat) : D := .list (l.map nD)
end DS
namespace DS
open PySem PySem.Spec PyProof.Rows L2
open PySem.W (Datum DatumOrd Tup)
open PySem.W.Datum (toD)
/-! ### values with a type, as data -/
instance dNat : Datum Nat where
  toD n := .int (n : Int)
  plain _ := rfl
  eqv a b := by
    simp only [PyData.eqv]
    rw [PySem.W.beq_decide]
    exact decide_eq_decide.mpr (by omega)
  depth := 0
  depth_le _ := Nat.le_refl _
instance oNat : DatumOrd Nat where
  lt a b := decide (a < b)
  alike a b := by show PySem.W.alike (.int _) (.int _) = true; simp only [PySem.W.alike]
  notNone a := fun e => by cases e
  lt_eq a b := by
    refine (PySem.W.dataLt_int a b).trans ?_
    exact decide_eq_decide.mpr (by omega)
instance dOptNat : Datum (Option Nat) where
  toD n := match n with | none => .none | some n => .int (n : Int)
  plain n := by cases n <;> rfl
  eqv a b := by
    cases a with
    | none => cases b <;> simp [PyData.eqv]
    | some a => cases b with
      | none => simp [PyData.eqv]
      | some b =>
        simp only [PyData.eqv]
        rw [PySem.W.beq_decide]
        exact decide_eq_decide.mpr (by simp; omega)
  depth := 0
  depth_le n := by cases n <;> exact Nat.le_refl _
mutual
theorem fit_of : ∀ (d : D) (n : Nat), d.plain = true → d.depth ≤ n → fit n d = true
  | .none, _, _, _ => by rw [fit]
  | .bool _, _, _, _ => by rw [fit]
  | .int _, _, _, _ => by rw [fit]
  | .str _, _, _, _ => by rw [fit]
  | .list xs, n, p, h => by
    rw [fit]
    exact fitAll_of xs n (by simpa [PyData.plain] using p) (by simpa [PyData.depth] using h)
  | .tuple xs, n, p, h => by
    rw [fit]
    exact fitAll_of xs n (by simpa [PyData.plain] using p) (by simpa [PyData.depth] using h)
  | .dict _, _, p, _ => by simp [PyData.plain] at p
theorem fitAll_of : ∀ (ds : List D) (n : Nat), PyData.plainAll ds = true → PyData.depthAll ds + 1 ≤ n → fitAll n ds = true
  | [], _, _, _ => by rw [fitAll]
  | d :: ds, 0, _, h => by simp at h
  | d :: ds, n + 1, p, h => by
    rw [PyData.plainAll, Bool.and_eq_true] at p
    rw [PyData.depthAll] at h
    rw [fitAll, fit_of d n p.1 (by omega), fitAll_of ds (n + 1) p.2 (by omega)]
    rfl
end
section
variable {α β : Type} [DecidableEq α] [Datum α] [DecidableEq β] [Datum β]
theorem fit_toD (a : α) {n : Nat} (h : Datum.depth α ≤ n) : fit n (toD a) = true := fit_of _ _ (Datum.plain a) (Nat.le_trans (Datum.depth_le a) h)
theorem fitAll_toD (l : List α) {n : Nat} (h : Datum.depth α + 1 ≤ n) : fitAll n (l.map toD) = true := fitAll_of _ _ (PySem.W.plainAll_map l) (Nat.le_trans (Nat.succ_le_succ (PySem.W.depthAll_map l)) h)
/-- a list that is owned, its items shared -/
def shT (x : α) : O := .sh (toD x)
def tO (l : List α) : O := .lst (l.map shT)
theorem tO_def (l : List α) : tO l = .lst (l.map shT) := rfl
theorem toD_nat (n : Nat) : (toD n : D) = .int (n : Int) := Eq.trans rfl rfl
theorem toD_int (n : Int) : (toD n : D) = .int n := Eq.trans rfl rfl
theorem toD_bool (n : Bool) : (toD n : D) = .bool n := Eq.trans rfl rfl
theorem toD_str (n : Str) : (toD n : D) = .str n := Eq.trans rfl rfl
theorem toD_none : (toD (none : Option Nat) : D) = .none := Eq.trans rfl rfl
theorem toD_some (n : Nat) : (toD (some n) : D) = .int (n : Int) := Eq.trans rfl rfl
theorem toD_list (l : List α) : (toD l : D) = .list (l.map toD) := Eq.trans rfl rfl
theorem toD_pair (p : α × β) : (toD p : D) = .tuple [toD p.1, toD p.2] := Eq.trans rfl rfl
theorem toD_mk (a : α) (b : β) : (toD (a, b) : D) = .tuple [toD a, toD b] := Eq.trans rfl rfl
theorem toD_tup (p : Tup α) : (toD p : D) = .tuple (p.items.map toD) := Eq.trans rfl rfl
theorem erase_shT (l : List α) : (O.lst (l.map shT)).erase = toD l := by
  rw [O.erase_lst, List.map_map, toD_list]
  congr 1
theorem tO_erase (l : List α) : (tO l).erase = toD l := erase_shT l
theorem t_len (l : List α) : bLenX [toD l] = some (.int (l.length : Int)) := by
  rw [toD_list, x_lenL, List.length_map]
theorem t_ix (l : List α) (i : Nat) : dIx (toD l) (.int (i : Int)) = (l[i]?).map toD := by
  rw [toD_list, x_ixI, atI_N, List.getElem?_map]
theorem t_ixI (l : List α) (i : Int) : dIx (toD l) (.int i) = (atI l i).map toD := by
  rw [toD_list, x_ixI]
  unfold atI
  rw [List.length_map]
  cases ixN l.length i <;> simp
theorem t_fst (p : α × β) : dIx (toD p) (.int 0) = some (toD p.1) := Eq.trans rfl rfl
theorem t_snd (p : α × β) : dIx (toD p) (.int 1) = some (toD p.2) := Eq.trans rfl rfl
theorem t_seq (l : List α) : asSeq (toD l) = some (l.map toD) := Eq.trans rfl rfl
theorem t_tup (gs : List D → Env → Option Env) (p : α × β) (Γ : Env) : gTupD 2 gs (toD p) Γ = gs [toD p.1, toD p.2] Γ := by
  rw [toD_pair, run_gTup]; exact if_pos rfl
theorem t_eq (a b : α) (h : Datum.depth α ≤ 12 := by decide) : dEq (toD a) (toD b) = some (.bool (decide (a = b))) := by
  rw [x_eq (fit_toD a h) (fit_toD b h), Datum.eqv]
theorem t_ne (a b : α) (h : Datum.depth α ≤ 12 := by decide) : dNe (toD a) (toD b) = some (.bool (!decide (a = b))) := by
  rw [x_ne (fit_toD a h) (fit_toD b h), Datum.eqv]
theorem any_eqv (a : α) (l : List α) : ((l.map toD).any fun y => PyData.eqv y (toD a)) = decide (a ∈ l) := by
  induction l with
  | nil => rfl
  | cons b l ih =>
    rw [List.map_cons, List.any_cons, ih, Datum.eqv, ← Bool.decide_or]
    exact decide_eq_decide.mpr (by rw [List.mem_cons, eq_comm])
theorem t_in (a : α) (l : List α) (h : Datum.depth α + 1 ≤ 12 := by decide) : dInX (toD a) (toD l) = some (.bool (decide (a ∈ l))) := by
  rw [toD_list]
  show dIn (toD a) (.list (l.map toD)) = _
  unfold dIn
  cases e : toD a <;> (rw [← e]; exact (if_pos ⟨fit_toD a (by omega), fitAll_toD l h⟩).trans (by rw [any_eqv]))
theorem t_notin (a : α) (l : List α) (h : Datum.depth α + 1 ≤ 12 := by decide) : dNotInX (toD a) (toD l) = some (.bool (!decide (a ∈ l))) := by
  rw [toD_list]
  show (dIn (toD a) (.list (l.map toD))).bind dNot = _
  have : dIn (toD a) (.list (l.map toD)) = some (.bool (decide (a ∈ l))) := by
    unfold dIn
    cases e : toD a <;> (rw [← e]; exact (if_pos ⟨fit_toD a (by omega), fitAll_toD l h⟩).trans (by rw [any_eqv]))
  rw [this]; rfl
theorem t_isL (l : List α) : PyData.isList (toD l) = true := Eq.trans rfl rfl
theorem t_isLT (l : List α) : PyData.isTuple (toD l) = false := Eq.trans rfl rfl
theorem t_isT (p : α × β) : PyData.isTuple (toD p) = true := Eq.trans rfl rfl
theorem t_lenT (p : α × β) : bLenX [toD p] = some (.int 2) := Eq.trans rfl rfl
theorem t_add (l m : List α) (h : l.length + m.length ≤ 16777216) : dAdd (toD l) (toD m) = some (toD (l ++ m)) := by
  rw [toD_list, toD_list, x_addL (by rw [List.length_map, List.length_map]; exact h), toD_list, List.map_append]
theorem t_enum (l : List α) : enumD [toD l] = some (l.zipIdx.map fun p => .tuple [.int (p.2 : Int), toD p.1]) := by
  rw [toD_list, x_enum]
  congr 1
  have : ∀ (l : List α) (k : Nat), enumFrom k (l.map toD) = (l.zipIdx k).map fun p => .tuple [.int (p.2 : Int), toD p.1] := by
    intro l
    induction l with
    | nil => intro k; rfl
    | cons a l ih => intro k; rw [List.map_cons, enumFrom, ih (k + 1)]; rfl
  exact this l 0
theorem t_zip (l : List α) (m : List β) : zipD [toD l, toD m] = some ((l.zip m).map toD) := by
  rw [toD_list, toD_list]
  show some (zipD2 _ _) = _
  congr 1
  induction l generalizing m with
  | nil => rfl
  | cons a l ih =>
    cases m with
    | nil => rfl
    | cons b m => rw [List.map_cons, List.map_cons, zipD2, ih m]; rfl
theorem cutD_map {γ : Type} (f : α → γ) (xs : List α) (lo hi : Option Int) : cutD (xs.map f) lo hi = (cutD xs lo hi).map f := by
  unfold cutD
  rw [List.length_map, ← List.map_drop, ← List.map_take]
theorem t_slice (l : List α) (lo hi : Option Int) : oSl (toD l) lo hi = some (tO (cutD l lo hi)) := by
  rw [toD_list]
  show some (O.lst ((cutD (l.map toD) lo hi).map .sh)) = _
  rw [cutD_map, List.map_map]; rfl
theorem t_appO (l : List α) (a : α) (h : l.length < 16777216) : opAppend (.sh (toD a)) (l.map shT) = some (.sh .none, (l ++ [a]).map shT) := by
  rw [x_append' (by rw [List.length_map]; exact h), List.map_append]; rfl
end
theorem cut_nat {α : Type} (l : List α) (i j : Nat) : cutD l (some (i : Int)) (some (j : Int)) = (l.take j).drop i := by
  unfold cutD
  rw [HT.sIx_nat, HT.sIx_nat, List.drop_take]
  by_cases h : i ≤ l.length
  · rw [Nat.min_eq_left h]
    by_cases h2 : j ≤ l.length
    · rw [Nat.min_eq_left h2]
    · rw [Nat.min_eq_right (by omega), List.take_of_length_le (by simp), List.take_of_length_le (by rw [List.length_drop]; omega)]
  · rw [Nat.min_eq_right (Nat.le_of_not_le h), List.drop_length, List.take_nil, List.drop_of_length_le (Nat.le_of_not_le h), List.take_nil]
theorem cut_to {α : Type} (l : List α) (j : Nat) : cutD l none (some (j : Int)) = l.take j := by
  have := cut_nat l 0 j
  rw [List.drop_zero] at this
  exact this
theorem cut_from {α : Type} (l : List α) (i : Nat) : cutD l (some (i : Int)) none = l.drop i := by
  unfold cutD
  rw [HT.sIx_nat, HT.sIx_none]
  by_cases h : i ≤ l.length
  · rw [Nat.min_eq_left h, List.take_of_length_le (by rw [List.length_drop]; omega)]
  · rw [Nat.min_eq_right (Nat.le_of_not_le h), List.drop_length, List.take_nil, List.drop_of_length_le (Nat.le_of_not_le h)]
theorem t_sum (l : List Nat) : bSum [toD l] = some (.int (l.sum : Int)) := by
  rw [toD_list]
  have e : l.map (toD : Nat → D) = (l.map (fun n : Nat => (n : Int))).map .int := by rw [List.map_map]; rfl
  rw [e]
  show (asInts _).map _ = _
  rw [asInts_map]
  show some (PyData.int (l.map (fun n : Nat => (n : Int))).sum) = _
  have q : ∀ l : List Nat, (l.map (fun n : Nat => (n : Int))).sum = (l.sum : Int) := by
    intro l
    induction l with
    | nil => rfl
    | cons a l ih => rw [List.map_cons, List.sum_cons, List.sum_cons, ih, Int.natCast_add]
  rw [q]
theorem t_appN (l : List Nat) (a : Nat) (h : l.length < 16777216) : opAppend (.sh (.int (a : Int))) (l.map shT) = some (.sh .none, (l ++ [a]).map shT) := t_appO l a h
theorem t_appI (l : List Int) (a : Int) (h : l.length < 16777216) : opAppend (.sh (.int a)) (l.map shT) = some (.sh .none, (l ++ [a]).map shT) := t_appO l a h
theorem t_appON (l : List (Option Nat)) (a : Nat) (h : l.length < 16777216) : opAppend (.sh (.int (a : Int))) (l.map shT) = some (.sh .none, (l ++ [some a]).map shT) := t_appO l (some a) h
theorem t_appP (l : List (Nat × Nat)) (a b : Nat) (h : l.length < 16777216) : opAppend (.sh (.tuple [.int (a : Int), .int (b : Int)])) (l.map shT) = some (.sh .none, (l ++ [(a, b)]).map shT) := t_appO l (a, b) h
theorem t_popN (l : List Nat) (i : Nat) (a : Nat) (h : l[i]? = some a) (hl : i < 9223372036854775808) : opPopAt (i : Int) (l.map shT) = some (.sh (.int (a : Int)), (l.eraseIdx i).map shT) := by
  rw [x_popAt (o := shT a) (by rw [List.getElem?_map, h]; rfl) (by omega), eraseIdx_map']; rfl
theorem t_oRg (n : Nat) (h : n ≤ 16777216) : oRg1 (.int (n : Int)) = some (.lst ((List.range n).map shT)) := x_oRg1 h
theorem t_range1 (n : Nat) (h : n < 4611686018427387904) : range1D [.int (n : Int)] = some ((List.range n).map toD) := x_range1' (by omega)
theorem t_range2 (i j : Nat) (h : i < 4611686018427387904) (h' : j < 4611686018427387904) : range2D [.int (i : Int), .int (j : Int)] = some ((List.range' i (j - i)).map toD) := by
  rw [x_range2' (by omega) (by omega), List.range'_eq_map_range, List.map_map]; rfl
theorem t_range2L (j : Nat) (h' : j < 4611686018427387904) : range2D [.int 1, .int (j : Int)] = some ((List.range' 1 (j - 1)).map toD) := t_range2 1 j (by decide) h'
theorem t_extend {α : Type} [DecidableEq α] [Datum α] (l m : List α) (h : l.length + m.length ≤ 16777216) : opExtend (.lst (m.map shT)) (l.map shT) = some (.sh .none, (l ++ m).map shT) := by
  refine (if_pos (by rw [List.length_map, List.length_map]; exact h)).trans ?_
  rw [List.map_append]
theorem atI_neg {α : Type} {l : List α} {i : Nat} (h : i < l.length) : atI l (-1 - (i : Int)) = l[l.length - 1 - i]? := by
  unfold atI ixN
  rw [if_neg (by omega), if_pos (by omega)]
  show l[(-1 - (i : Int) + (l.length : Int)).toNat]? = _
  congr 1; omega
theorem get?_getD {α : Type} {l : List α} {i : Nat} {d : α} (h : i < l.length) : l[i]? = some (l.getD i d) := by simp [h]
theorem t_list {α : Type} [DecidableEq α] [Datum α] (l : List α) : oList [toD l] = some (.lst (l.map shT)) := by
  rw [toD_list]
  show some (O.lst ((l.map toD).map .sh)) = _
  rw [List.map_map]; rfl
theorem t_all (l : List Bool) (h : l.length ≤ 16777216) : bAll [toD l] = some (.bool (l.all id)) := by
  rw [toD_list]
  have h2 : ((l.map toD).all fun x => match x with | PyData.bool _ => true | _ => false) = true := by
    rw [List.all_eq_true]
    intro d hd
    obtain ⟨b, _, rfl⟩ := List.mem_map.mp hd
    rfl
  refine (if_pos ⟨fitAll_toD l (by decide), h2⟩).trans ?_
  congr 2
  induction l with
  | nil => rfl
  | cons b l ih =>
    rw [List.map_cons, List.all_cons, List.all_cons, ih (by simp at h; omega) (by
      rw [List.map_cons, List.all_cons, Bool.and_eq_true] at h2; exact h2.2)]
    rfl
theorem t_allTrue {α : Type} (l : List α) (h : l.length ≤ 16777216) : bAll [toD (l.map fun _ => true)] = some (.bool true) := by
  rw [t_all _ (by rw [List.length_map]; exact h)]
  congr 2
  rw [List.all_eq_true]
  intro b hb
  obtain ⟨_, _, rfl⟩ := List.mem_map.mp hb
  rfl
theorem ite_andD {c b : Bool} {Γ : Env} : (if c = true then some (Out.ok (PyData.bool b), Γ) else some (Out.ok (PyData.bool false), Γ)) = some (Out.ok (PyData.bool (c && b)), Γ) := by cases c <;> rfl
theorem ite_orD {c b : Bool} {Γ : Env} : (if c = true then some (Out.ok (PyData.bool true), Γ) else some (Out.ok (PyData.bool b), Γ)) = some (Out.ok (PyData.bool (c || b)), Γ) := by cases c <;> rfl
theorem ite_andM {c b : Bool} {Γ : Env} : (if c = true then some (Out.ok b, Γ) else some (Out.ok false, Γ)) = some (Out.ok (c && b), Γ) := by cases c <;> rfl
theorem ite_orM {c b : Bool} {Γ : Env} : (if c = true then some (Out.ok true, Γ) else some (Out.ok b, Γ)) = some (Out.ok (c || b), Γ) := by cases c <;> rfl
theorem bInt_b (b : Bool) : bInt [.bool b] = some (.int (if b = true then 1 else 0)) := Eq.trans rfl rfl
theorem isB_b (b : Bool) : PyData.isBool (.bool b) = true := Eq.trans rfl rfl
theorem isB_i (i : Int) : PyData.isBool (.int i) = false := Eq.trans rfl rfl
theorem isI_i (i : Int) : PyData.isInt (.int i) = true := Eq.trans rfl rfl
theorem isI_b (i : Bool) : PyData.isInt (.bool i) = true := Eq.trans rfl rfl
theorem isB_n : PyData.isBool .none = false := Eq.trans rfl rfl
theorem isI_n : PyData.isInt .none = false := Eq.trans rfl rfl
theorem isL_l (i : List D) : PyData.isList (.list i) = true := Eq.trans rfl rfl
theorem isT_t (i : List D) : PyData.isTuple (.tuple i) = true := Eq.trans rfl rfl
theorem isS_s (i : Str) : PyData.isStr (.str i) = true := Eq.trans rfl rfl
theorem t_reverse {α : Type} [DecidableEq α] [Datum α] (l : List α) : opReverse (l.map shT) = some (.sh .none, l.reverse.map shT) := by
  show some (O.sh PyData.none, (l.map shT).reverse) = _
  rw [← List.map_reverse]
theorem t_clear (l : List O) : opClear l = some (.sh .none, []) := Eq.trans rfl rfl
theorem x_isNN : dIs .none .none = some (.bool true) := Eq.trans rfl rfl
theorem x_isIN (i : Int) : dIs (.int i) .none = some (.bool false) := Eq.trans rfl rfl
theorem x_isDN {α : Type} [DecidableEq α] [Datum α] (l : List α) : dIs (toD l) .none = some (.bool false) := Eq.trans rfl rfl
theorem x_isnNN : dIsNot .none .none = some (.bool false) := Eq.trans rfl rfl
theorem x_isnIN (i : Int) : dIsNot (.int i) .none = some (.bool true) := Eq.trans rfl rfl
theorem x_isBT (b : Bool) : dIs (.bool b) (.bool true) = some (.bool b) := by cases b <;> rfl
theorem x_isBF (b : Bool) : dIs (.bool b) (.bool false) = some (.bool !b) := by cases b <;> rfl
theorem x_isnBT (b : Bool) : dIsNot (.bool b) (.bool true) = some (.bool !b) := by cases b <;> rfl
theorem x_isnBF (b : Bool) : dIsNot (.bool b) (.bool false) = some (.bool b) := by cases b <;> rfl
theorem t_oMul1 (d : D) (n : Nat) (h : n ≤ 16777216) : oMul (.list [d]) (.int (n : Int)) = some (.lst (List.replicate n (.sh d))) := by
  refine (if_pos ⟨by omega, by omega, by simp; omega⟩).trans ?_
  congr 2
  rw [Int.toNat_natCast]
  clear h
  induction n with
  | zero => rfl
  | succ n ih => rw [List.replicate_succ, List.flatten_cons, List.map_append, ih, List.replicate_succ]; rfl
theorem t_oMulN (n : Nat) (h : n ≤ 16777216) : oMul (.list [.none]) (.int (n : Int)) = some (.lst ((List.replicate n (none : Option Nat)).map shT)) := by
  rw [t_oMul1 _ n h, List.map_replicate]; rfl
theorem t_setIxO (l : List (Option Nat)) (j : Nat) (v : Nat) (h : j < l.length) : setO (.lst (l.map shT)) (.int (j : Int)) (.sh (.int (v : Int))) = some (.lst ((l.set j (some v)).map shT)) := by
  rw [x_setIxL (by rw [List.length_map]; exact h), List.map_set]; rfl
theorem t_setIxO0 (l : List (Option Nat)) (j : Nat) (h : j < l.length) : setO (.lst (l.map shT)) (.int (j : Int)) (.sh (.int 0)) = some (.lst ((l.set j (some 0)).map shT)) := t_setIxO l j 0 h
theorem run_cur (i : Nat) (Γ : Env) : M.cur i Γ = match Γ[i]? with | some (some (.sh d)) => some (.ok d, Γ) | _ => none := by
  unfold M.cur M.look
  cases Γ[i]? with
  | none => rfl
  | some x =>
    cases x with
    | none => rfl
    | some o => cases o <;> rfl
theorem erase_nil : (O.lst []).erase = .list [] := by rw [O.erase_lst]; rfl
theorem x_iadd (i j : Int) : dIAdd (.int i) (.int j) = some (.int (i + j)) := Eq.trans rfl rfl
theorem x_isub (i j : Int) : dISub (.int i) (.int j) = some (.int (i - j)) := Eq.trans rfl rfl
theorem run_callM (i : Nat) (F : O → List D → Option (O × O)) (ds : List D) (Γ : Env) : M.callM i F ds Γ = match Γ[i]? with
  | some (some o) => match F o ds with
    | none => none
    | some (r, o') => some (.ok r, Γ.set i (some o'))
  | _ => none := Eq.trans rfl rfl
theorem run_hasM {α : Type} (i : Nat) (m : M α) (Γ : Env) : M.has i m Γ = match Γ[i]? with
  | some (some _) => m Γ
  | _ => none := Eq.trans rfl rfl
/-- a pair made of two numbers -/
def pO (p : Nat × Nat) : O := .tup [.sh (.int (p.1 : Int)), .sh (.int (p.2 : Int))]
theorem pO_erase (p : Nat × Nat) : (pO p).erase = toD p := by
  show (O.tup [.sh (.int (p.1 : Int)), .sh (.int (p.2 : Int))]).erase = _
  rw [O.erase_tup, List.map_cons, List.map_cons, List.map_nil, O.erase_sh, O.erase_sh]; rfl
theorem erase_pO (l : List (Nat × Nat)) : (O.lst (l.map pO)).erase = toD l := by
  rw [O.erase_lst, List.map_map, toD_list]
  exact congrArg PyData.list (List.map_congr_left fun p _ => pO_erase p)
theorem t_appPO (l : List (Nat × Nat)) (a b : Nat) (h : l.length < 16777216) : opAppend (.tup [.sh (.int (a : Int)), .sh (.int (b : Int))]) (l.map pO) = some (.sh .none, (l ++ [(a, b)]).map pO) := by
  rw [x_append' (by rw [List.length_map]; exact h), List.map_append]; rfl
theorem x_kw11 {α : Type} (a b : α) : kwG 1 1 [0] [a] [b] = [a, b] := Eq.trans rfl rfl
theorem bB_true : bInt [.bool true] = some (.int 1) := Eq.trans rfl rfl
theorem bB_false : bInt [.bool false] = some (.int 0) := Eq.trans rfl rfl
/-! ### what stands within -/
theorem er_cons (x : Option O) (Γ : Env) : er (x :: Γ) = Option.map (fun o => O.sh o.erase) x :: er Γ := Eq.trans rfl rfl
theorem hide_cons (x : Option O) (Γ : Env) : hide (x :: Γ) = hideO x :: hide Γ := Eq.trans rfl rfl
theorem hideO_none : hideO none = none := Eq.trans rfl rfl
theorem hideO_sh (d : D) : hideO (some (.sh d)) = some (.sh d) := Eq.trans rfl rfl
theorem hideO_lst (d : List O) : hideO (some (.lst d)) = none := Eq.trans rfl rfl
theorem hideO_tup (d : List O) : hideO (some (.tup d)) = none := Eq.trans rfl rfl
theorem hideO_dic (d : List (D × O)) : hideO (some (.dic d)) = none := Eq.trans rfl rfl
theorem hide_nil : hide [] = [] := Eq.trans rfl rfl
theorem hide_none (Γ : Env) : hide (none :: Γ) = none :: hide Γ := Eq.trans rfl rfl
theorem hide_sh (d : D) (Γ : Env) : hide (some (.sh d) :: Γ) = some (.sh d) :: hide Γ := Eq.trans rfl rfl
theorem hide_lst (d : List O) (Γ : Env) : hide (some (.lst d) :: Γ) = none :: hide Γ := Eq.trans rfl rfl
theorem hide_tup (d : List O) (Γ : Env) : hide (some (.tup d) :: Γ) = none :: hide Γ := Eq.trans rfl rfl
theorem hide_dic (d : List (D × O)) (Γ : Env) : hide (some (.dic d) :: Γ) = none :: hide Γ := Eq.trans rfl rfl
theorem run_hid (f : M D) (Γ : Env) : M.hid f Γ = match f (hide Γ) with | some (.ok d, _) => some (.ok d, Γ) | _ => none := Eq.trans rfl rfl
theorem run_atL {α : Type} (i : Nat) (k : D) (m : M α) (Γ : Env) : M.atL i k m Γ = match Γ[i]? with
  | some (some o) => match atO o k with
    | some (.lst _) => m Γ
    | _ => none
  | _ => none := Eq.trans rfl rfl
theorem run_chAt (i : Nat) (k : D) (F : List O → Option (O × List O)) (Γ : Env) : M.chAt i k F Γ = match Γ[i]? with
  | some (some o) => match atO o k with
    | some (.lst os) => match F os with
      | some (r, os') => match setAt o k (.lst os') with
        | some o' => some (.ok r, Γ.set i (some o'))
        | none => none
      | none => none
    | _ => none
  | _ => none := Eq.trans rfl rfl
section
variable {α : Type} [DecidableEq α] [Datum α]
theorem t_atL (ls : List (List α)) (j : Nat) : atO (.lst (ls.map tO)) (.int (j : Int)) = (ls[j]?).map tO := by
  show (ixN (ls.map tO).length (j : Int)).bind (fun n => (ls.map tO)[n]?) = _
  rw [show (ixN (ls.map tO).length (j : Int)).bind (fun n => (ls.map tO)[n]?) = atI (ls.map tO) (j : Int) from rfl, atI_N, List.getElem?_map]
theorem t_atOS (ls : List (List α)) (j : Nat) : atOS (.lst (ls.map tO)) (.int (j : Int)) = (ls[j]?).map tO := t_atL ls j
theorem t_atOSD (d : D) (k : D) : atOS (.sh d) k = (dIx d k).map .sh := Eq.trans rfl rfl
theorem t_setAt (ls : List (List α)) (j : Nat) (l : List α) (h : j < ls.length) : setAt (.lst (ls.map tO)) (.int (j : Int)) (.lst (l.map shT)) = some (.lst ((ls.set j l).map tO)) := by
  show (ixN (ls.map tO).length (j : Int)).map _ = _
  have : ixN (ls.map tO).length (j : Int) = some j := by
    unfold ixN; rw [List.length_map, if_pos (by omega), if_pos (by omega)]; rfl
  rw [this]
  show some (O.lst ((ls.map tO).set j (tO l))) = _
  rw [List.map_set]
theorem erase_tO (ls : List (List α)) : (O.lst (ls.map tO)).erase = toD ls := by
  rw [O.erase_lst, List.map_map, toD_list]
  congr 1
  exact List.map_congr_left fun a _ => tO_erase a
theorem t_rev (l : List α) : oRev (toD l) = some (.lst (l.reverse.map shT)) := by
  rw [toD_list]
  show some (O.lst ((l.map toD).reverse.map .sh)) = _
  rw [← List.map_reverse, List.map_map]; rfl
end
theorem x_minN (a b : Nat) : bMin [.int (a : Int), .int (b : Int)] = some (.int ((min a b : Nat) : Int)) := by
  rw [x_minI]; congr 2; omega
theorem x_maxN (a b : Nat) : bMax [.int (a : Int), .int (b : Int)] = some (.int ((max a b : Nat) : Int)) := by
  rw [x_maxI]; congr 2; omega
theorem x_addN (a b : Nat) : dAdd (.int (a : Int)) (.int (b : Int)) = some (.int ((a + b : Nat) : Int)) := by rw [x_addI, Int.natCast_add]
theorem x_addN1 (a : Nat) : dAdd (.int (a : Int)) (.int 1) = some (.int ((a + 1 : Nat) : Int)) := by rw [x_addI]; rfl
theorem x_add1N (a : Nat) : dAdd (.int 1) (.int (a : Int)) = some (.int ((1 + a : Nat) : Int)) := by rw [x_addI, Int.natCast_add]; rfl
theorem x_modN (a b : Nat) (h : 0 < b) : dMod (.int (a : Int)) (.int (b : Int)) = some (.int ((a % b : Nat) : Int)) := by
  rw [x_mod (by omega), Int.natCast_emod]
theorem x_divN (a b : Nat) (h : 0 < b) (h2 : b < 1073741824) : dDiv (.int (a : Int)) (.int (b : Int)) = some (.int ((a / b : Nat) : Int)) := by
  rw [x_div (by omega) (by omega), Int.natCast_ediv]
theorem x_mulN (a b : Nat) (h2 : b < 18446744073709551616) : dMul (.int (a : Int)) (.int (b : Int)) = some (.int ((a * b : Nat) : Int)) := by
  rw [x_mul' (by omega) (by omega), Int.natCast_mul]
section
variable {α β : Type} [DecidableEq β] [Datum β]
theorem lst_map (f : α → β) (l : List α) : (O.lst (l.map fun x => .sh (toD (f x)))) = tO (l.map f) := by
  unfold tO; rw [List.map_map]; rfl
theorem erase_map (f : α → β) (l : List α) : (O.lst (l.map fun x => .sh (toD (f x)))).erase = toD (l.map f) := by
  rw [lst_map, tO_erase]
theorem wpM_compT {vs : List Nat} {fi : M (List D)} {g : D → Env → Option Env} {elt : M O} {Γ Γ1 : Env} {R : Out O → Env → Prop} {ds : List D} (enc : α → D) (xs : List α) (f : α → β)
    (hf : fi Γ = some (.ok ds, Γ1)) (hd : ds = xs.map enc) (hl : xs.length ≤ 16777216)
    (step : ∀ x ∈ xs, ∃ Γ2 Γ3, g (enc x) (wipeE Γ1 vs) = some Γ2 ∧ elt Γ2 = some (.ok (.sh (toD (f x))), Γ3) ∧ wipeE Γ3 vs = wipeE Γ1 vs)
    (fin : R (.ok (tO (xs.map f))) (backE Γ1 (wipeE Γ1 vs) vs)) : wpM (compM vs fi g (M.pure true) elt) Γ R :=
  wpM_compMap enc xs (fun x => .sh (toD (f x))) hf hd hl step (by rw [lst_map]; exact fin)
theorem wpM_compTF {vs : List Nat} {fi : M (List D)} {g : D → Env → Option Env} {ifs : M Bool} {elt : M O} {Γ Γ1 : Env} {R : Out O → Env → Prop} {ds : List D} (enc : α → D) (xs : List α) (p : α → Bool) (f : α → β)
    (hf : fi Γ = some (.ok ds, Γ1)) (hd : ds = xs.map enc) (hl : xs.length ≤ 16777216)
    (step : ∀ x ∈ xs, ∃ Γ2 Γ3, g (enc x) (wipeE Γ1 vs) = some Γ2 ∧ ifs Γ2 = some (.ok (p x), Γ3) ∧ (p x = false → wipeE Γ3 vs = wipeE Γ1 vs) ∧ (p x = true → ∃ Γ4, elt Γ3 = some (.ok (.sh (toD (f x))), Γ4) ∧ wipeE Γ4 vs = wipeE Γ1 vs))
    (fin : R (.ok (tO ((xs.filter p).map f))) (backE Γ1 (wipeE Γ1 vs) vs)) : wpM (compM vs fi g ifs elt) Γ R :=
  wpM_compIf enc xs p (fun x => .sh (toD (f x))) hf hd hl step (by rw [lst_map]; exact fin)
end
theorem c_add (a b : Nat) : (a : Int) + (b : Int) = ((a + b : Nat) : Int) := (Int.natCast_add a b).symm
theorem c_add1 (a : Nat) : (a : Int) + 1 = ((a + 1 : Nat) : Int) := (Int.natCast_add a 1).symm
theorem c_1add (a : Nat) : 1 + (a : Int) = ((1 + a : Nat) : Int) := (Int.natCast_add 1 a).symm
theorem c_mul (a b : Nat) : (a : Int) * (b : Int) = ((a * b : Nat) : Int) := (Int.natCast_mul a b).symm
theorem c_2mul (b : Nat) : 2 * (b : Int) = ((2 * b : Nat) : Int) := (Int.natCast_mul 2 b).symm
theorem c_emod (a b : Nat) : (a : Int) % (b : Int) = ((a % b : Nat) : Int) := (Int.natCast_emod a b).symm
theorem c_ediv (a b : Nat) : (a : Int) / (b : Int) = ((a / b : Nat) : Int) := (Int.natCast_ediv a b).symm
/-! ### order -/
section
variable {α β : Type} [DecidableEq α] [DatumOrd α] [DecidableEq β] [DatumOrd β]
/-- the data can be sorted -/
class Srt (α : Type) [DecidableEq α] [DatumOrd α] : Prop where
  ok : ∀ l : List α, sortable (l.map toD) = true
  irr : ∀ a : α, DatumOrd.lt a a = false
  trans : ∀ a b c : α, DatumOrd.lt a b = true → DatumOrd.lt b c = true → DatumOrd.lt a c = true
  tri : ∀ a b : α, DatumOrd.lt a b = false → DatumOrd.lt b a = false → a = b
def srt (l : List α) : List α := l.mergeSort fun a b => !DatumOrd.lt b a
theorem sortOk_toD [Srt α] (l : List α) (h : Datum.depth α + 1 ≤ 12) : sortOk (l.map toD) = true := by
  unfold sortOk
  rw [Bool.and_eq_true, Bool.and_eq_true]
  refine ⟨⟨fitAll_toD l h, ?_⟩, Srt.ok l⟩
  rw [List.all_eq_true]
  intro a ha
  rw [List.all_eq_true]
  intro b hb
  obtain ⟨x, _, rfl⟩ := List.mem_map.mp ha
  obtain ⟨y, _, rfl⟩ := List.mem_map.mp hb
  exact DatumOrd.alike x y
theorem sortD_toD (l : List α) : sortD (l.map toD) = (srt l).map toD := by
  unfold sortD srt
  refine (List.map_mergeSort fun a _ b _ => ?_).symm
  rw [DatumOrd.lt_eq]
theorem t_sorted [Srt α] (l : List α) (h : Datum.depth α + 1 ≤ 12 := by decide) : oSorted [toD l] = some (tO (srt l)) := by
  rw [toD_list, x_sortedL (sortOk_toD l h), sortD_toD, List.map_map]; rfl
theorem t_sortedK [Srt α] (kvs : List (D × D)) (l : List α) (e : kvs.map (·.1) = l.map toD) (h : Datum.depth α + 1 ≤ 12 := by decide) : oSorted [.dict kvs] = some (tO (srt l)) := by
  rw [x_sortedK (by rw [e]; exact sortOk_toD l h), e, sortD_toD, List.map_map]; rfl
theorem srt_perm (l : List α) : (srt l).Perm l := List.mergeSort_perm l _
theorem mem_srt {l : List α} {a : α} : a ∈ srt l ↔ a ∈ l := (srt_perm l).mem_iff
theorem srt_len (l : List α) : (srt l).length = l.length := (srt_perm l).length_eq
theorem srt_le [Srt α] (l : List α) : (srt l).Pairwise fun a b => DatumOrd.lt b a = false := by
  have h := List.pairwise_mergeSort (le := fun a b : α => !DatumOrd.lt b a) (fun a b c h1 h2 => by
    simp only [Bool.not_eq_true'] at h1 h2 ⊢
    cases h : DatumOrd.lt c a with
    | false => rfl
    | true =>
      exfalso
      by_cases q : a = b
      · subst q; rw [h2] at h; cases h
      · cases h3 : DatumOrd.lt a b with
        | true =>
          have := Srt.trans c a b h h3
          rw [h2] at this; cases this
        | false => exact q (Srt.tri a b h3 h1)) (fun a b => by
    cases h : DatumOrd.lt b a with
    | false => rfl
    | true =>
      cases h2 : DatumOrd.lt a b with
      | false => rfl
      | true =>
        have := Srt.trans a b a h2 h
        rw [Srt.irr] at this; cases this) l
  exact h.imp fun h => by simpa using h
theorem srt_lt [Srt α] {l : List α} (nd : l.Nodup) : (srt l).Pairwise fun a b => DatumOrd.lt a b = true := by
  have h1 := srt_le l
  have h2 : (srt l).Pairwise (· ≠ ·) := (srt_perm l).nodup_iff.mpr nd
  refine (h1.and h2).imp fun {a b} h => ?_
  cases h3 : DatumOrd.lt a b with
  | true => rfl
  | false => exact absurd (Srt.tri a b h3 h.1) h.2
/-- what is sorted is determined by its members -/
theorem srt_uniq [Srt α] : ∀ {l m : List α}, l.Pairwise (fun a b => DatumOrd.lt a b = true) → m.Pairwise (fun a b => DatumOrd.lt a b = true) → (∀ a, a ∈ l ↔ a ∈ m) → l = m
  | [], [], _, _, _ => rfl
  | [], b :: m, _, _, h => absurd ((h b).mpr List.mem_cons_self) (by simp)
  | a :: l, [], _, _, h => absurd ((h a).mp List.mem_cons_self) (by simp)
  | a :: l, b :: m, hl, hm, h => by
    have h1 := List.pairwise_cons.mp hl
    have h2 := List.pairwise_cons.mp hm
    have nab : ¬ (DatumOrd.lt a b = true) := fun q => by
      have hb : a ∈ b :: m := (h a).mp List.mem_cons_self
      rcases List.mem_cons.mp hb with rfl | hb
      · rw [Srt.irr] at q; cases q
      · have := Srt.trans a b a q (h2.1 a hb)
        rw [Srt.irr] at this; cases this
    have nba : ¬ (DatumOrd.lt b a = true) := fun q => by
      have hb : b ∈ a :: l := (h b).mpr List.mem_cons_self
      rcases List.mem_cons.mp hb with rfl | hb
      · rw [Srt.irr] at q; cases q
      · have := Srt.trans b a b q (h1.1 b hb)
        rw [Srt.irr] at this; cases this
    have e : a = b := Srt.tri a b (by simpa using nab) (by simpa using nba)
    subst e
    congr 1
    refine srt_uniq h1.2 h2.2 fun c => ⟨fun hc => ?_, fun hc => ?_⟩
    · rcases List.mem_cons.mp ((h c).mp (List.mem_cons_of_mem _ hc)) with rfl | q
      · have := h1.1 c hc
        rw [Srt.irr] at this; cases this
      · exact q
    · rcases List.mem_cons.mp ((h c).mpr (List.mem_cons_of_mem _ hc)) with rfl | q
      · have := h2.1 c hc
        rw [Srt.irr] at this; cases this
      · exact q
theorem srt_same [Srt α] {l : List α} (h : l.Pairwise (fun a b => DatumOrd.lt a b = true)) : srt l = l := by
  refine List.mergeSort_of_pairwise (h.imp fun {a b} q => ?_)
  cases h3 : DatumOrd.lt b a with
  | false => rfl
  | true =>
    have := Srt.trans a b a q h3
    rw [Srt.irr] at this; cases this
theorem t_lt (a b : α) (h : Datum.depth α ≤ 12 := by decide) : dLt (toD a) (toD b) = some (.bool (DatumOrd.lt a b)) := by
  have : ordOk (toD a) (toD b) = true := by
    unfold ordOk
    rw [fit_toD a h, fit_toD b h, DatumOrd.alike a b]
    have := DatumOrd.notNone a
    cases e : toD a <;> first | rfl | exact absurd e this
  refine (if_pos this).trans ?_
  rw [DatumOrd.lt_eq]
theorem t_le (a b : α) (h : Datum.depth α ≤ 12 := by decide) : dLe (toD a) (toD b) = some (.bool (!DatumOrd.lt b a)) := by
  have : ordOk (toD a) (toD b) = true := by
    unfold ordOk
    rw [fit_toD a h, fit_toD b h, DatumOrd.alike a b]
    have := DatumOrd.notNone a
    cases e : toD a <;> first | rfl | exact absurd e this
  refine (if_pos this).trans ?_
  rw [DatumOrd.lt_eq]
end
instance : Srt Nat where
  ok l := by
    unfold sortable
    rw [Bool.or_eq_true]
    right
    rw [List.all_eq_true]
    intro d hd
    obtain ⟨a, _, rfl⟩ := List.mem_map.mp hd
    rfl
  irr a := by show decide (a < a) = false; simp
  trans a b c h1 h2 := by
    have h1 := of_decide_eq_true (show decide (a < b) = true from h1)
    have h2 := of_decide_eq_true (show decide (b < c) = true from h2)
    exact decide_eq_true (Nat.lt_trans h1 h2)
  tri a b h1 h2 := by
    have h1 := of_decide_eq_false (show decide (a < b) = false from h1)
    have h2 := of_decide_eq_false (show decide (b < a) = false from h2)
    omega
instance : Srt Int where
  ok l := by
    unfold sortable
    rw [Bool.or_eq_true]
    right
    rw [List.all_eq_true]
    intro d hd
    obtain ⟨a, _, rfl⟩ := List.mem_map.mp hd
    rfl
  irr a := by show decide (a < a) = false; simp
  trans a b c h1 h2 := by
    have h1 := of_decide_eq_true (show decide (a < b) = true from h1)
    have h2 := of_decide_eq_true (show decide (b < c) = true from h2)
    exact decide_eq_true (Int.lt_trans h1 h2)
  tri a b h1 h2 := by
    have h1 := of_decide_eq_false (show decide (a < b) = false from h1)
    have h2 := of_decide_eq_false (show decide (b < a) = false from h2)
    omega
theorem lt_nat (a b : Nat) : DatumOrd.lt a b = decide (a < b) := rfl
section
variable {α β : Type} [DecidableEq α] [DatumOrd α] [DecidableEq β] [DatumOrd β] [Srt α] [Srt β]
theorem lt_pair (p q : α × β) : DatumOrd.lt p q = if p.1 = q.1 then DatumOrd.lt p.2 q.2 else DatumOrd.lt p.1 q.1 := rfl
instance : Srt (α × β) where
  ok l := by
    unfold sortable
    rw [Bool.or_eq_true]
    left
    rw [List.all_eq_true]
    intro d hd
    obtain ⟨a, _, rfl⟩ := List.mem_map.mp hd
    rfl
  irr a := by rw [lt_pair, if_pos rfl]; exact Srt.irr _
  trans a b c h1 h2 := by
    rw [lt_pair] at h1 h2 ⊢
    by_cases e1 : a.1 = b.1 <;> by_cases e2 : b.1 = c.1
    · rw [if_pos e1] at h1; rw [if_pos e2] at h2; rw [if_pos (e1.trans e2)]; exact Srt.trans _ _ _ h1 h2
    · rw [if_neg e2] at h2; rw [if_neg (by rw [e1]; exact e2), e1]; exact h2
    · rw [if_neg e1] at h1; rw [if_neg (by rw [← e2]; exact e1), ← e2]; exact h1
    · rw [if_neg e1] at h1; rw [if_neg e2] at h2
      have h3 := Srt.trans _ _ _ h1 h2
      rw [if_neg (fun q => by rw [q, Srt.irr] at h3; cases h3)]; exact h3
  tri a b h1 h2 := by
    rw [lt_pair] at h1 h2
    by_cases e : a.1 = b.1
    · rw [if_pos e] at h1; rw [if_pos e.symm] at h2
      exact Prod.ext e (Srt.tri _ _ h1 h2)
    · rw [if_neg e] at h1; rw [if_neg (Ne.symm e)] at h2
      exact absurd (Srt.tri _ _ h1 h2) e
theorem lt_list (l m : List α) : DatumOrd.lt l m = PySem.W.listLt l m := rfl
theorem listLt_irr : ∀ l : List α, PySem.W.listLt l l = false
  | [] => rfl
  | a :: l => by rw [PySem.W.listLt, if_pos rfl]; exact listLt_irr l
theorem listLt_trans : ∀ l m k : List α, PySem.W.listLt l m = true → PySem.W.listLt m k = true → PySem.W.listLt l k = true
  | [], [], _, h, _ => by cases h
  | [], _ :: _, [], _, h => by cases h
  | [], _ :: _, _ :: _, _, _ => rfl
  | _ :: _, [], _, h, _ => by cases h
  | _ :: _, _ :: _, [], _, h => by cases h
  | a :: l, b :: m, c :: k, h1, h2 => by
    rw [PySem.W.listLt] at h1 h2 ⊢
    by_cases e1 : a = b <;> by_cases e2 : b = c
    · rw [if_pos e1] at h1; rw [if_pos e2] at h2; rw [if_pos (e1.trans e2)]; exact listLt_trans l m k h1 h2
    · rw [if_neg e2] at h2; rw [if_neg (by rw [e1]; exact e2), e1]; exact h2
    · rw [if_neg e1] at h1; rw [if_neg (by rw [← e2]; exact e1), ← e2]; exact h1
    · rw [if_neg e1] at h1; rw [if_neg e2] at h2
      have h3 := Srt.trans _ _ _ h1 h2
      rw [if_neg (fun q => by rw [q, Srt.irr] at h3; cases h3)]; exact h3
theorem listLt_tri : ∀ l m : List α, PySem.W.listLt l m = false → PySem.W.listLt m l = false → l = m
  | [], [], _, _ => rfl
  | [], _ :: _, h, _ => by cases h
  | _ :: _, [], _, h => by cases h
  | a :: l, b :: m, h1, h2 => by
    rw [PySem.W.listLt] at h1 h2
    by_cases e : a = b
    · rw [if_pos e] at h1; rw [if_pos e.symm] at h2
      rw [e, listLt_tri l m h1 h2]
    · rw [if_neg e] at h1; rw [if_neg (Ne.symm e)] at h2
      exact absurd (Srt.tri _ _ h1 h2) e
instance : Srt (List α) where
  ok l := by
    unfold sortable
    rw [Bool.or_eq_true]
    right
    rw [List.all_eq_true]
    intro d hd
    obtain ⟨a, _, rfl⟩ := List.mem_map.mp hd
    rfl
  irr := listLt_irr
  trans := listLt_trans
  tri := listLt_tri
end
/-! ### keys -/
class DKey (α : Type) [DecidableEq α] [Datum α] : Prop where
  kind : ∀ a b : α, kindK (toD a) (toD b) = true
  ok : ∀ a : α, (asKK (toD a)).isSome = true
  same : ∀ a b : α, sameK (toD a) (toD b) = decide (a = b)
instance : DKey Nat where
  kind a b := rfl
  ok a := rfl
  same a b := by
    show decide ((Sum.inl (Sum.inl (a : Int)) : Key ⊕ List Key) = Sum.inl (Sum.inl (b : Int))) = _
    exact decide_eq_decide.mpr (by simp; omega)
instance : DKey (Nat × Nat) where
  kind a b := rfl
  ok a := rfl
  same a b := by
    show decide ((Sum.inr [Sum.inl (a.1 : Int), Sum.inl (a.2 : Int)] : Key ⊕ List Key) = Sum.inr [Sum.inl (b.1 : Int), Sum.inl (b.2 : Int)]) = _
    exact decide_eq_decide.mpr (by simp [Prod.ext_iff]; omega)
def kN (n : Nat) : Key := .inl (n : Int)
theorem asKs_nats : ∀ l : List Nat, asKs (l.map toD) = some (l.map kN)
  | [] => rfl
  | a :: l => by rw [List.map_cons, toD_nat, asKs, asKs_nats l]; rfl
theorem asKK_tup (a : Tup Nat) : asKK (toD a) = some (.inr (a.items.map kN)) := by
  show (asKs (a.items.map toD)).map Sum.inr = _
  rw [asKs_nats]; rfl
instance : DKey (Tup Nat) where
  kind a b := by unfold kindK; rw [asKK_tup, asKK_tup]
  ok a := by rw [asKK_tup]; rfl
  same a b := by
    unfold sameK
    rw [asKK_tup, asKK_tup]
    show decide ((Sum.inr (a.items.map kN) : Key ⊕ List Key) = Sum.inr (b.items.map kN)) = _
    refine decide_eq_decide.mpr ⟨fun h => ?_, fun h => by rw [h]⟩
    have h : a.items.map kN = b.items.map kN := by injection h
    have e := (List.map_inj_right (f := kN) (fun x y q => by
      unfold kN at q; injection q with q; omega)).mp h
    cases a; cases b; exact congrArg Tup.mk e
section
variable {α : Type} [DecidableEq α] [Datum α] [DKey α] {γ : Type}
/-- a dict's pairs, its keys told -/
def kD (f : γ → D) (kvs : List (α × γ)) : List (D × D) := kvs.map fun p => (toD p.1, f p.2)
def kO (f : γ → O) (kvs : List (α × γ)) : List (D × O) := kvs.map fun p => (toD p.1, f p.2)
theorem keysOk_toD (l : List α) (k : α) : keysOk (l.map toD) (toD k) = true := by
  unfold keysOk
  rw [DKey.ok, Bool.true_and, List.all_eq_true]
  intro d hd
  obtain ⟨a, _, rfl⟩ := List.mem_map.mp hd
  exact DKey.kind k a
theorem getK_t {δ : Type} (f : γ → δ) (kvs : List (α × γ)) (k : α) : getK (kvs.map fun p => (toD p.1, f p.2)) (toD k) = (kvs.lookup k).map f := by
  unfold getK
  induction kvs with
  | nil => rfl
  | cons p kvs ih =>
    rw [List.map_cons, List.find?_cons]
    simp only [DKey.same]
    by_cases h : p.1 = k
    · subst h
      simp [List.lookup]
    · have h' : (k == p.1) = false := by simpa using Ne.symm h
      have e : kvs.lookup k = List.lookup k (p :: kvs) := by
        obtain ⟨a, b⟩ := p
        simp only [List.lookup, h']
      rw [← e]
      simp only [h, decide_false]
      exact ih
theorem kD_keys (f : γ → D) (kvs : List (α × γ)) : (kD f kvs).map (·.1) = (kvs.map (·.1)).map toD := by
  unfold kD; rw [List.map_map, List.map_map]; rfl
theorem kO_keys (f : γ → O) (kvs : List (α × γ)) : (kO f kvs).map (·.1) = (kvs.map (·.1)).map toD := by
  unfold kO; rw [List.map_map, List.map_map]; rfl
theorem t_look (f : γ → D) (kvs : List (α × γ)) (k : α) : lookD (kD f kvs) (toD k) = some ((kvs.lookup k).map f) := by
  refine (if_pos ?_).trans ?_
  · rw [kD_keys]; exact keysOk_toD _ k
  · rw [kD, getK_t]
theorem t_ixK (f : γ → D) (kvs : List (α × γ)) (k : α) : dIx (.dict (kD f kvs)) (toD k) = (kvs.lookup k).map f := by
  show (lookD (kD f kvs) (toD k)).bind id = _
  rw [t_look]; rfl
theorem t_inK (f : γ → D) (kvs : List (α × γ)) (k : α) : dInX (toD k) (.dict (kD f kvs)) = some (.bool (kvs.lookup k).isSome) := by
  have : dInX (toD k) (.dict (kD f kvs)) = (lookD (kD f kvs) (toD k)).map fun r => .bool r.isSome := by
    unfold dInX; rfl
  rw [this, t_look]; simp
theorem t_notinK (f : γ → D) (kvs : List (α × γ)) (k : α) : dNotInX (toD k) (.dict (kD f kvs)) = some (.bool (!(kvs.lookup k).isSome)) := by
  have : dNotInX (toD k) (.dict (kD f kvs)) = (lookD (kD f kvs) (toD k)).map fun r => .bool (!r.isSome) := by
    unfold dNotInX; rfl
  rw [this, t_look]; simp
/-- a pair put in -/
def putT (kvs : List (α × γ)) (k : α) (v : γ) : List (α × γ) := if k ∈ kvs.map (·.1) then kvs.map fun p => if p.1 = k then (p.1, v) else p else kvs ++ [(k, v)]
theorem any_same (f : γ → O) (kvs : List (α × γ)) (k : α) : ((kO f kvs).any fun p => sameK p.1 (toD k)) = decide (k ∈ kvs.map (·.1)) := by
  unfold kO
  induction kvs with
  | nil => rfl
  | cons p kvs ih =>
    rw [List.map_cons, List.any_cons, ih, DKey.same, ← Bool.decide_or]
    exact decide_eq_decide.mpr (by rw [List.map_cons, List.mem_cons, eq_comm])
theorem t_put (f : γ → D) (kvs : List (α × γ)) (k : α) (v : γ) (h : kvs.length < 16777216) : putKO (kO (fun x => .sh (f x)) kvs) (toD k) (.sh (f v)) = some (kO (fun x => .sh (f x)) (putT kvs k v)) := by
  unfold putKO
  rw [if_pos ⟨by rw [kO_keys]; exact keysOk_toD _ k, by unfold kO; rw [List.length_map]; exact h⟩, any_same]
  unfold putT
  by_cases hk : k ∈ kvs.map (·.1)
  · rw [if_pos (decide_eq_true hk), if_pos hk]
    simp only
    congr 1
    unfold kO
    rw [List.map_map, List.map_map]
    refine List.map_congr_left fun p _ => ?_
    show (if sameK (toD p.1) (toD k) = true then _ else _) = _
    rw [DKey.same]
    by_cases q : p.1 = k
    · rw [if_pos (decide_eq_true q)]
      show _ = (fun p : α × γ => (toD p.1, O.sh (f p.2))) (if p.1 = k then (p.1, v) else p)
      rw [if_pos q]
    · rw [if_neg (by rw [decide_eq_true_eq]; exact q)]
      show _ = (fun p : α × γ => (toD p.1, O.sh (f p.2))) (if p.1 = k then (p.1, v) else p)
      rw [if_neg q]
  · rw [if_neg (by rw [decide_eq_true_eq]; exact hk), if_neg hk]
    unfold kO
    rw [List.map_append]; rfl
theorem x_setD (f : γ → D) (kvs : List (α × γ)) (k : α) (v : γ) (h : kvs.length < 16777216) : setO (.dic (kO (fun x => .sh (f x)) kvs)) (toD k) (.sh (f v)) = some (.dic (kO (fun x => .sh (f x)) (putT kvs k v))) := by
  have : setO (.dic (kO (fun x => .sh (f x)) kvs)) (toD k) (.sh (f v)) = (putKO (kO (fun x => .sh (f x)) kvs) (toD k) (.sh (f v))).map .dic := by
    unfold setO; cases (toD k : D) <;> rfl
  rw [this, t_put f kvs k v h]; rfl
theorem putT_keys (kvs : List (α × γ)) (k : α) (v : γ) : (putT kvs k v).map (·.1) = if k ∈ kvs.map (·.1) then kvs.map (·.1) else kvs.map (·.1) ++ [k] := by
  unfold putT
  split
  · rw [List.map_map]
    refine List.map_congr_left fun p _ => ?_
    show (if p.1 = k then (p.1, v) else p).1 = p.1
    split <;> rfl
  · rw [List.map_append]; rfl
theorem putT_nodup {kvs : List (α × γ)} {k : α} {v : γ} (h : (kvs.map (·.1)).Nodup) : ((putT kvs k v).map (·.1)).Nodup := by
  rw [putT_keys]
  split
  · exact h
  · rename_i q
    rw [List.nodup_append]
    exact ⟨h, by simp, fun a ha b hb => by rw [List.mem_singleton] at hb; subst hb; exact fun e => q (e ▸ ha)⟩
theorem putT_mem {kvs : List (α × γ)} {k : α} {v : γ} {x : α} : x ∈ (putT kvs k v).map (·.1) ↔ x ∈ kvs.map (·.1) ∨ x = k := by
  rw [putT_keys]
  split
  · rename_i q; exact ⟨.inl, fun h => h.elim id fun e => e ▸ q⟩
  · simp [List.mem_append]
theorem putT_len {kvs : List (α × γ)} {k : α} {v : γ} : (putT kvs k v).length ≤ kvs.length + 1 := by
  unfold putT; split <;> simp
theorem kO_erase (f : γ → D) (kvs : List (α × γ)) : (O.dic (kO (fun x => .sh (f x)) kvs)).erase = .dict (kD f kvs) := by
  rw [O.erase_dic]
  unfold kO kD
  rw [List.map_map]
  congr 1
theorem kT_erase {γ : Type} [DecidableEq γ] [Datum γ] (kvs : List (α × γ)) : (O.dic (kO shT kvs)).erase = .dict (kD toD kvs) := kO_erase toD kvs
theorem x_setT {γ : Type} [DecidableEq γ] [Datum γ] (kvs : List (α × γ)) (k : α) (v : γ) (h : kvs.length < 16777216) : setO (.dic (kO shT kvs)) (toD k) (.sh (toD v)) = some (.dic (kO shT (putT kvs k v))) := x_setD toD kvs k v h
end
end DS
namespace DS
open PySem.W (Datum DatumOrd Tup)
open PySem.W.Datum (toD)
open PySem PySem.Spec PyProof.Rows L2 DS
theorem ofString_len (s : String) : (Str.ofString s).length = s.length := by
  rw [Str.ofString_eq_toList]
  show (s.toList.map Char.toNat).toArray.size = _
  simp [String.length_toList]
theorem int_text (i : Nat) : (toString (i : Int) : String) = i.repr := rfl
theorem num_le {i k : Nat} (hk : 0 < k) (h : i < 10 ^ k) : (Str.ofString (toString (i : Int))).length ≤ k := by
  rw [ofString_len, int_text]
  exact (Nat.length_repr_le_iff hk).mpr h
theorem s_len' (a b : Str) : (a ++ b).length = a.length + b.length := by
  show (a.cps ++ b.cps).size = a.cps.size + b.cps.size
  rw [Array.size_append]
/-- what is shown, in at most n signs -/
structure Sh (n : Nat) (d : D) : Prop where
  ok : d.showable = true
  le : d.shown.length ≤ n
theorem Sh.mono {n m : Nat} {d : D} (h : Sh n d) (k : n ≤ m) : Sh m d := ⟨h.ok, Nat.le_trans h.le k⟩
theorem sh_nat {i k : Nat} (hk : 0 < k) (h : i < 10 ^ k) (h2 : k ≤ 400) : Sh k (.int (i : Int)) := by
  refine ⟨?_, ?_⟩
  · show decide ((i : Int).natAbs.log2 < 1920) = true
    refine decide_eq_true ?_
    show i.log2 < 1920
    by_cases hz : i = 0
    · subst hz; decide
    · have h1 : i < 2 ^ 1920 := by
        refine Nat.lt_of_lt_of_le h ?_
        refine Nat.le_trans (Nat.pow_le_pow_left (show 10 ≤ 2 ^ 4 by decide) k) ?_
        rw [← Nat.pow_mul]
        exact Nat.pow_le_pow_right (by decide) (by omega)
      exact (Nat.log2_lt hz).mpr h1
  · exact num_le hk h
theorem textFrom_le : ∀ (ts : List Str) (k : Nat) (acc : Str) (m : Nat), (∀ t ∈ ts, t.length ≤ m) → (textFrom k acc ts).length ≤ acc.length + ts.length * (m + 2)
  | [], k, acc, m, _ => by show acc.length ≤ _; omega
  | t :: r, k, acc, m, h => by
    have h1 := h t List.mem_cons_self
    have h2 := textFrom_le r (k + 1) (acc ++ (if k > 0 then ", " else "" : String) ++ t) m fun u hu => h u (List.mem_cons_of_mem _ hu)
    have h3 : (Str.ofString (if k > 0 then ", " else "" : String)).length ≤ 2 := by
      rw [ofString_len]; split <;> decide
    rw [s_len', s_len'] at h2
    rw [List.length_cons, Nat.succ_mul]
    show (textFrom (k + 1) (acc ++ (if k > 0 then ", " else "" : String) ++ t) r).length ≤ _
    omega
theorem shownAll_map : ∀ ds : List D, PyData.shownAll ds = ds.map PyData.shown
  | [] => rfl
  | d :: ds => by rw [PyData.shownAll, shownAll_map ds]; rfl
theorem showableAll_of : ∀ {ds : List D}, (∀ d ∈ ds, d.showable = true) → PyData.showableAll ds = true
  | [], _ => rfl
  | d :: ds, h => by rw [PyData.showableAll, h d List.mem_cons_self, showableAll_of fun e he => h e (List.mem_cons_of_mem _ he)]; rfl
theorem sh_list {ds : List D} {m n : Nat} (h : ∀ d ∈ ds, Sh m d) (hn : ds.length * (m + 2) + 2 ≤ n) : Sh n (.list ds) := by
  refine ⟨?_, ?_⟩
  · rw [PyData.showable]; exact showableAll_of fun d hd => (h d hd).ok
  · rw [PyData.shown, shownAll_map]
    unfold listText
    rw [s_len']
    have h1 := textFrom_le (ds.map PyData.shown) 0 "[" m fun t ht => by
      obtain ⟨d, hd, rfl⟩ := List.mem_map.mp ht
      exact (h d hd).le
    rw [List.length_map] at h1
    have h2 : (Str.ofString "[").length = 1 := by rw [ofString_len]; rfl
    have h3 : (Str.ofString "]").length = 1 := by rw [ofString_len]; rfl
    omega
theorem join_le (a : Str) (m : Nat) : ∀ {zs : List Str}, (∀ z ∈ zs, z.length ≤ m) → (Str.join a zs).length ≤ zs.length * (m + a.length)
  | [], _ => Nat.zero_le _
  | z :: zs, h => by
    have h1 := h z List.mem_cons_self
    have h2 := join_le a m (zs := zs) fun y hy => h y (List.mem_cons_of_mem _ hy)
    rw [List.length_cons, Nat.succ_mul]
    cases zs with
    | nil => show z.length ≤ _; omega
    | cons y r =>
      show (z ++ a ++ Str.join a (y :: r)).length ≤ _
      rw [s_len', s_len']
      omega
theorem sh_tuple {ds : List D} {m n : Nat} (h : ∀ d ∈ ds, Sh m d) (hn : ds.length * (m + 2) + 3 ≤ n) : Sh n (.tuple ds) := by
  refine ⟨?_, ?_⟩
  · rw [PyData.showable]; exact showableAll_of fun d hd => (h d hd).ok
  · rw [PyData.shown, shownAll_map]
    unfold tupleText
    rw [s_len', s_len']
    have h1 := join_le ", " m (zs := ds.map PyData.shown) fun t ht => by
      obtain ⟨d, hd, rfl⟩ := List.mem_map.mp ht
      exact (h d hd).le
    rw [List.length_map] at h1
    have h2 : (Str.ofString "(").length = 1 := by rw [ofString_len]; rfl
    have h3 : (Str.ofString ", ").length = 2 := by rw [ofString_len]; rfl
    rw [h3] at h1
    have h4 : (Str.ofString (if ((ds.map PyData.shown).length == 1) = true then ",)" else ")" : String)).length ≤ 2 := by
      rw [ofString_len]; split <;> decide
    omega
section
variable {α β : Type} [DecidableEq α] [Datum α] [DecidableEq β] [Datum β]
theorem sh_listT {l : List α} {m n : Nat} (h : ∀ a ∈ l, Sh m (toD a)) (hn : l.length * (m + 2) + 2 ≤ n) : Sh n (toD l) := by
  rw [toD_list]
  refine sh_list (m := m) (fun d hd => ?_) (by rw [List.length_map]; exact hn)
  obtain ⟨a, ha, rfl⟩ := List.mem_map.mp hd
  exact h a ha
theorem sh_pairT {p : α × β} {m n : Nat} (h1 : Sh m (toD p.1)) (h2 : Sh m (toD p.2)) (hn : 2 * (m + 2) + 3 ≤ n) : Sh n (toD p) := by
  rw [toD_pair]
  refine sh_tuple (m := m) (fun d hd => ?_) hn
  rcases List.mem_cons.mp hd with rfl | hd
  · exact h1
  · rw [List.mem_singleton] at hd; subst hd; exact h2
theorem t_repr (a : α) {n : Nat} (h : Sh n (toD a)) (hn : n ≤ 16777216) (hd : Datum.depth α ≤ 12 := by decide) : bRepr [toD a] = some (.str (toD a).shown) :=
  x_repr (fit_toD a hd) h.ok (Nat.le_trans h.le hn)
end
/-- a web's text as data -/
theorem sh_web {w : Nat × List (Nat × Nat)} (h1 : w.1 < 1000) (h2 : w.2.length ≤ 1000) (h3 : ∀ t ∈ w.2, t.1 < 1000 ∧ t.2 < 1000) : Sh 40000 (toD w) := by
  refine sh_pairT (m := 15010) ((sh_nat (k := 3) (by decide) h1 (by decide)).mono (by decide)) (sh_listT (m := 13) (fun t ht => ?_) (by omega)) (by decide)
  exact sh_pairT (m := 3) (sh_nat (by decide) (h3 t ht).1 (by decide)) (sh_nat (by decide) (h3 t ht).2 (by decide)) (by decide)
end DS
namespace WT
open PySem PySem.Spec PyProof.Rows L2 DS
open PySem.W.Datum (toD)
noncomputable def den_written_e1 : M O :=
  (M.map O.sh (M.bind ((fun acc => M.bind (M.bind (M.rd 1) fun d => M.lift (dFmt d)) fun d => M.bind (M.lift (catS acc d)) (fun acc => M.bind (M.pure (.str "-")) fun d => M.bind (M.lift (catS acc d)) (fun acc => M.bind (M.bind (M.rd 2) fun d => M.lift (dFmt d)) fun d => M.bind (M.lift (catS acc d)) (fun acc => M.pure acc)))) Str.empty) fun out => M.pure (.str out)))
noncomputable def den_written : SF :=
  (Sf.of (M.map O.sh (M.bind (M.pure (.str " ")) fun x => M.bind (M.lift (asS x)) fun z => M.bind (M.bind (M.bind (M.bind (M.bind (M.bind (M.bind (M.rd 0) fun x => M.bind (M.pure (.int 0)) fun y => M.lift (dIx x y)) fun x => M.bind (M.pure []) fun xs => M.pure (x :: xs)) fun l => M.lift (bStr l)) fun x => M.bind (M.pure []) fun xs => M.pure (x :: xs)) fun l => M.lift (mkDL l)) fun x => M.bind (M.map O.erase (compM [1, 2] (M.bind (M.bind (M.rd 0) fun x => M.bind (M.pure (.int 1)) fun y => M.lift (dIx x y)) fun d => M.lift (asSeq d)) (gTupD 2 (gConsD (gPut 1) (gConsD (gPut 2) gNilD))) (M.pure true) den_written_e1)) fun y => M.lift (dAdd x y)) fun y => M.lift (dJoin z y))) Sf.rt)
noncomputable def G_written : List D → Option (Out O) := runF 3 den_written
noncomputable def den_all_written_e1 : M O :=
  (M.bind (M.bind (M.rd 1) fun x => M.bind (M.pure []) fun xs => M.pure (x :: xs)) fun l => if l.length + ([] : List D).length = 1 then M.call WT.G_written (l ++ []) else M.fail)
noncomputable def den_all_written : SF :=
  (Sf.seq (Sf.ite (M.bind (M.bind (M.bind (M.rd 0) fun x => M.bind (M.pure []) fun xs => M.pure (x :: xs)) fun l => M.lift (bLenX l)) fun x => M.bind (M.pure (.int 0)) fun y => M.lift ((dEq x y).bind asB))
    (Sf.of (M.map O.sh (M.pure (.str "none"))) Sf.rt)
    Sf.nx)
    (Sf.of (M.map O.sh (M.bind (M.pure (.str " * ")) fun x => M.bind (M.lift (asS x)) fun z => M.bind (M.map O.erase (compM [1] (M.bind (M.rd 0) fun d => M.lift (asSeq d)) (gPut 1) (M.pure true) den_all_written_e1)) fun y => M.lift (dJoin z y))) Sf.rt))
noncomputable def G_all_written : List D → Option (Out O) := runF 2 den_all_written
noncomputable def den_beside_all_e1 : M O :=
  (M.bind (M.pure []) fun l => M.lift (mkL l))
noncomputable def den_beside_all_b2 : SF :=
  (Sf.seq (Sf.of (M.bind (M.hid (M.rd 2)) fun k => M.atL 1 k (M.bind (M.hid (M.rd 3)) fun d => M.chAt 1 k (opAppend (.sh d)))) fun _ => Sf.nx)
    (Sf.of (M.bind (M.hid (M.rd 3)) fun k => M.atL 1 k (M.bind (M.hid (M.rd 2)) fun d => M.chAt 1 k (opAppend (.sh d)))) fun _ => Sf.nx))
noncomputable def den_beside_all_e3 : M O :=
  (M.bind (M.bind (M.rd 5) fun x => M.bind (M.pure []) fun xs => M.pure (x :: xs)) fun l => M.lift (oSorted l))
noncomputable def den_beside_all : SF :=
  (Sf.seq (Sf.of (compM [4] (M.bind (M.bind (M.bind (M.rd 0) fun x => M.bind (M.pure (.int 0)) fun y => M.lift (dIx x y)) fun x => M.bind (M.pure []) fun xs => M.pure (x :: xs)) fun l => M.lift (range1D l)) (gPut 4) (M.pure true) den_beside_all_e1) (Sf.putO 1))
    (Sf.seq (Sf.of (M.bind (M.bind (M.rd 0) fun x => M.bind (M.pure (.int 1)) fun y => M.lift (dIx x y)) fun d => M.lift (asSeq d)) (forS (gTupD 2 (gConsD (gPut 2) (gConsD (gPut 3) gNilD)))
    den_beside_all_b2))
    (Sf.of (compM [5] (M.bind (M.rd 1) fun d => M.lift (asSeq d)) (gPut 5) (M.pure true) den_beside_all_e3) Sf.rt)))
noncomputable def G_beside_all : List D → Option (Out O) := runF 6 den_beside_all
noncomputable def den_beside_by_e1 : M O :=
  (M.map O.sh (M.bind (M.bind (M.map O.erase (M.bind (M.rd 1) fun x => M.bind (M.pure none) fun l => M.bind (M.bind (M.rd 3) fun d => M.lift (asPart d)) fun u => M.lift (oSl x l u))) fun x => M.bind (M.bind (M.bind (M.rd 5) fun x => M.bind (M.pure []) fun xs => M.pure (x :: xs)) fun l => M.lift (mkDL l)) fun y => M.lift (dAdd x y)) fun x => M.bind (M.map O.erase (M.bind (M.rd 1) fun x => M.bind (M.bind (M.bind (M.rd 3) fun x => M.bind (M.pure (.int 1)) fun y => M.lift (dAdd x y)) fun d => M.lift (asPart d)) fun l => M.bind (M.pure none) fun u => M.lift (oSl x l u))) fun y => M.lift (dAdd x y)))
noncomputable def den_beside_by_b2 : SF :=
  (Sf.of (M.isL 2 (M.bind (compM [5] (M.bind (M.bind (M.bind (M.rd 0) fun x => M.bind (M.rd 3) fun y => M.lift (dIx x y)) fun x => M.bind (M.rd 4) fun y => M.lift (dIx x y)) fun d => M.lift (asSeq d)) (gPut 5) (M.pure true) den_beside_by_e1) fun y => M.chL 2 (opExtend y))) fun _ => Sf.nx)
noncomputable def den_beside_by : SF :=
  (Sf.seq (Sf.of (M.bind (M.pure []) fun l => M.lift (mkL l)) (Sf.putO 2))
    (Sf.seq (Sf.of (M.bind (M.bind (M.rd 1) fun x => M.bind (M.pure []) fun xs => M.pure (x :: xs)) fun l => M.lift (enumD l)) (forS (gTupD 2 (gConsD (gPut 3) (gConsD (gPut 4) gNilD)))
    den_beside_by_b2))
    (Sf.of (M.bind (M.bind (M.rd 2) fun x => M.bind (M.pure []) fun xs => M.pure (x :: xs)) fun l => M.lift (oSorted l)) Sf.rt)))
noncomputable def G_beside_by : List D → Option (Out O) := runF 6 den_beside_by
noncomputable def den_is_whole : SF :=
  (Sf.of (M.map O.sh (M.bind (M.bind (M.rd 0) fun d => M.pure (.bool (PyData.isInt d))) fun d => M.bind (M.lift (asB d)) fun k => if k = true then (M.bind (M.bind (M.rd 0) fun d => M.pure (.bool (PyData.isBool d))) fun d => M.lift (dNot d)) else M.pure (.bool false))) Sf.rt)
noncomputable def G_is_whole : List D → Option (Out O) := runF 1 den_is_whole
noncomputable def den_is_row_in_e1 : M O :=
  (M.map O.sh (M.bind (M.map O.erase (M.bind (M.bind (M.rd 2) fun x => M.bind (M.pure []) fun xs => M.pure (x :: xs)) fun l => if l.length + ([] : List D).length = 1 then M.call WT.G_is_whole (l ++ []) else M.fail)) fun d => M.bind (M.lift (asB d)) fun k => if k = true then (chainM (M.pure (.int 0)) (M.rd 2) (M.bind (M.rd 3) fun x => M.bind (M.pure (.int 0)) fun y => M.lift (dIx x y)) dLe dLt) else M.pure (.bool false)))
noncomputable def den_is_row_in : SF :=
  (Sf.seq (Sf.ite (M.bind (M.bind (M.bind (M.bind (M.rd 1) fun d => M.pure (.bool (PyData.isList d))) fun d => M.lift (asB d)) fun k => M.pure (!k)) fun k => if k = true then M.pure true else (M.bind (M.bind (M.bind (M.rd 1) fun x => M.bind (M.pure []) fun xs => M.pure (x :: xs)) fun l => M.lift (bLenX l)) fun x => M.bind (M.bind (M.bind (M.rd 0) fun x => M.bind (M.pure []) fun xs => M.pure (x :: xs)) fun l => M.lift (bLenX l)) fun y => M.lift ((dNe x y).bind asB)))
    (Sf.of (M.map O.sh (M.pure (.bool false))) Sf.rt)
    Sf.nx)
    (Sf.of (M.map O.sh (M.bind (M.bind (M.map O.erase (compM [2, 3] (M.bind (M.bind (M.rd 1) fun x => M.bind (M.bind (M.rd 0) fun x => M.bind (M.pure []) fun xs => M.pure (x :: xs)) fun xs => M.pure (x :: xs)) fun l => M.lift (zipD l)) (gTupD 2 (gConsD (gPut 2) (gConsD (gPut 3) gNilD))) (M.pure true) den_is_row_in_e1)) fun x => M.bind (M.pure []) fun xs => M.pure (x :: xs)) fun l => M.lift (bAll l))) Sf.rt))
noncomputable def G_is_row_in : List D → Option (Out O) := runF 4 den_is_row_in
noncomputable def den_is_within : SF :=
  (Sf.of (M.map O.sh (M.bind (M.map O.erase (M.bind (M.bind (M.rd 0) fun x => M.bind (M.pure []) fun xs => M.pure (x :: xs)) fun l => if l.length + ([] : List D).length = 1 then M.call WT.G_is_whole (l ++ []) else M.fail)) fun d => M.bind (M.lift (asB d)) fun k => if k = true then (chainM (M.rd 1) (M.rd 0) (M.rd 2) dLe dLe) else M.pure (.bool false))) Sf.rt)
noncomputable def G_is_within : List D → Option (Out O) := runF 3 den_is_within
noncomputable def den_is_tie : SF :=
  (Sf.seq (Sf.ite (M.bind (M.bind (M.bind (M.bind (M.rd 1) fun d => M.pure (.bool (PyData.isTuple d))) fun d => M.lift (asB d)) fun k => M.pure (!k)) fun k => if k = true then M.pure true else (M.bind (M.bind (M.bind (M.rd 1) fun x => M.bind (M.pure []) fun xs => M.pure (x :: xs)) fun l => M.lift (bLenX l)) fun x => M.bind (M.pure (.int 2)) fun y => M.lift ((dNe x y).bind asB)))
    (Sf.of (M.map O.sh (M.pure (.bool false))) Sf.rt)
    Sf.nx)
    (Sf.seq (Sf.ite (M.bind (M.bind (M.bind (M.map O.erase (M.bind (M.bind (M.bind (M.rd 1) fun x => M.bind (M.pure (.int 0)) fun y => M.lift (dIx x y)) fun x => M.bind (M.bind (M.pure (.int 0)) fun x => M.bind (M.bind (M.bind (M.rd 0) fun x => M.bind (M.pure (.int 1)) fun y => M.lift (dSub x y)) fun x => M.bind (M.pure []) fun xs => M.pure (x :: xs)) fun xs => M.pure (x :: xs)) fun xs => M.pure (x :: xs)) fun l => if l.length + ([] : List D).length = 3 then M.call WT.G_is_within (l ++ []) else M.fail)) fun d => M.lift (asB d)) fun k => M.pure (!k)) fun k => if k = true then M.pure true else (M.bind (M.bind (M.map O.erase (M.bind (M.bind (M.bind (M.rd 1) fun x => M.bind (M.pure (.int 1)) fun y => M.lift (dIx x y)) fun x => M.bind (M.bind (M.pure (.int 0)) fun x => M.bind (M.bind (M.bind (M.rd 0) fun x => M.bind (M.pure (.int 1)) fun y => M.lift (dSub x y)) fun x => M.bind (M.pure []) fun xs => M.pure (x :: xs)) fun xs => M.pure (x :: xs)) fun xs => M.pure (x :: xs)) fun l => if l.length + ([] : List D).length = 3 then M.call WT.G_is_within (l ++ []) else M.fail)) fun d => M.lift (asB d)) fun k => M.pure (!k)))
    (Sf.of (M.map O.sh (M.pure (.bool false))) Sf.rt)
    Sf.nx)
    (Sf.of (M.map O.sh (M.bind (M.bind (M.rd 1) fun x => M.bind (M.pure (.int 0)) fun y => M.lift (dIx x y)) fun x => M.bind (M.bind (M.rd 1) fun x => M.bind (M.pure (.int 1)) fun y => M.lift (dIx x y)) fun y => M.lift (dLt x y))) Sf.rt)))
noncomputable def G_is_tie : List D → Option (Out O) := runF 2 den_is_tie
noncomputable def den_look_at_web_b1 : SF :=
  (Sf.seq (Sf.ite (M.bind (M.bind (M.bind (M.map O.erase (M.bind (M.bind (M.rd 1) fun x => M.bind (M.bind (M.rd 5) fun x => M.bind (M.pure []) fun xs => M.pure (x :: xs)) fun xs => M.pure (x :: xs)) fun l => if l.length + ([] : List D).length = 2 then M.call WT.G_is_tie (l ++ []) else M.fail)) fun d => M.lift (asB d)) fun k => M.pure (!k)) fun k => if k = true then M.pure true else (M.bind (M.rd 5) fun x => M.bind (M.rd 3) fun y => M.lift ((dLe x y).bind asB)))
    Sf.never
    Sf.nx)
    (Sf.of (M.map O.sh (M.rd 5)) (Sf.putO 3)))
noncomputable def den_look_at_web : SF :=
  (Sf.seq (Sf.ite (M.bind (M.bind (M.bind (M.bind (M.rd 0) fun d => M.pure (.bool (PyData.isTuple d))) fun d => M.lift (asB d)) fun k => M.pure (!k)) fun k => if k = true then M.pure true else (M.bind (M.bind (M.bind (M.rd 0) fun x => M.bind (M.pure []) fun xs => M.pure (x :: xs)) fun l => M.lift (bLenX l)) fun x => M.bind (M.pure (.int 2)) fun y => M.lift ((dNe x y).bind asB)))
    Sf.never
    Sf.nx)
    (Sf.seq (Sf.of (M.rd 0) fun d => Sf.puts ((gTupD 2 (gConsD (gPut 1) (gConsD (gPut 2) gNilD))) d))
    (Sf.seq (Sf.ite (M.bind (M.bind (M.map O.erase (M.bind (M.bind (M.rd 1) fun x => M.bind (M.bind (M.pure (.int 1)) fun x => M.bind (M.bind (M.pure (.int 40)) fun x => M.bind (M.pure []) fun xs => M.pure (x :: xs)) fun xs => M.pure (x :: xs)) fun xs => M.pure (x :: xs)) fun l => if l.length + ([] : List D).length = 3 then M.call WT.G_is_within (l ++ []) else M.fail)) fun d => M.lift (asB d)) fun k => M.pure (!k))
    Sf.never
    Sf.nx)
    (Sf.seq (Sf.ite (M.bind (M.bind (M.bind (M.bind (M.rd 2) fun d => M.pure (.bool (PyData.isList d))) fun d => M.lift (asB d)) fun k => M.pure (!k)) fun k => if k = true then M.pure true else (M.bind (M.bind (M.bind (M.rd 2) fun x => M.bind (M.pure []) fun xs => M.pure (x :: xs)) fun l => M.lift (bLenX l)) fun x => M.bind (M.pure (.int 120)) fun y => M.lift ((dGt x y).bind asB)))
    Sf.never
    Sf.nx)
    (Sf.seq (Sf.of (M.map O.sh (M.bind (M.bind (M.bind (M.pure (.int 1)) fun d => M.lift (dNeg d)) fun x => M.bind (M.bind (M.bind (M.pure (.int 1)) fun d => M.lift (dNeg d)) fun x => M.bind (M.pure []) fun xs => M.pure (x :: xs)) fun xs => M.pure (x :: xs)) fun l => M.lift (mkDT l))) (Sf.putO 3))
    (Sf.of (M.bind (M.bind (M.rd 2) fun x => M.bind (M.pure []) fun xs => M.pure (x :: xs)) fun l => M.lift (enumD l)) (forS (gTupD 2 (gConsD (gPut 4) (gConsD (gPut 5) gNilD)))
    den_look_at_web_b1)))))))
noncomputable def G_look_at_web : List D → Option (Out O) := runF 6 den_look_at_web
noncomputable def den_look_at_webs_b1 : SF :=
  (Sf.noex (Sf.of (M.bind (M.bind (M.rd 2) fun x => M.bind (M.pure []) fun xs => M.pure (x :: xs)) fun l => if l.length + ([] : List D).length = 1 then M.call WT.G_look_at_web (l ++ []) else M.fail) fun _ => Sf.nx))
noncomputable def den_look_at_webs : SF :=
  (Sf.seq (Sf.ite (M.bind (M.bind (M.bind (M.bind (M.rd 0) fun d => M.pure (.bool (PyData.isList d))) fun d => M.lift (asB d)) fun k => M.pure (!k)) fun k => if k = true then M.pure true else (M.bind (M.bind (M.bind (M.rd 0) fun x => M.bind (M.pure []) fun xs => M.pure (x :: xs)) fun l => M.lift (bLenX l)) fun x => M.bind (M.pure (.int 12)) fun y => M.lift ((dGt x y).bind asB)))
    Sf.never
    Sf.nx)
    (Sf.of (M.bind (M.bind (M.rd 0) fun x => M.bind (M.pure []) fun xs => M.pure (x :: xs)) fun l => M.lift (enumD l)) (forS (gTupD 2 (gConsD (gPut 1) (gConsD (gPut 2) gNilD)))
    den_look_at_webs_b1)))
noncomputable def G_look_at_webs : List D → Option (Out O) := runF 3 den_look_at_webs
noncomputable def den_is_row : SF :=
  (Sf.seq (Sf.of (M.bind (M.bind (M.rd 0) fun x => M.bind (M.pure []) fun xs => M.pure (x :: xs)) fun l => if l.length + ([] : List D).length = 1 then M.call WT.G_look_at_webs (l ++ []) else M.fail) fun _ => Sf.nx)
    (Sf.of (M.bind (M.bind (M.rd 0) fun x => M.bind (M.bind (M.rd 1) fun x => M.bind (M.pure []) fun xs => M.pure (x :: xs)) fun xs => M.pure (x :: xs)) fun l => if l.length + ([] : List D).length = 2 then M.call WT.G_is_row_in (l ++ []) else M.fail) Sf.rt))
noncomputable def G_is_row : List D → Option (Out O) := runF 2 den_is_row
noncomputable def den_law_cell_at : SF :=
  (Sf.seq (Sf.ite (M.bind (M.rd 1) fun x => M.bind (M.bind (M.bind (M.rd 0) fun x => M.bind (M.pure []) fun xs => M.pure (x :: xs)) fun l => M.lift (bLenX l)) fun y => M.lift ((dLt x y).bind asB))
    (Sf.of (M.map O.sh (M.bind (M.rd 0) fun x => M.bind (M.rd 1) fun y => M.lift (dIx x y))) Sf.rt)
    Sf.nx)
    (Sf.of (M.map O.sh (M.pure (.int 0))) Sf.rt))
noncomputable def G_law_cell_at : List D → Option (Out O) := runF 2 den_law_cell_at
noncomputable def den_law_numbers_b1 : SF :=
  (Sf.ite (M.bind (M.bind (M.rd 3) fun x => M.bind (M.bind (M.pure (.int 10)) fun x => M.bind (M.pure (.int 18)) fun y => M.lift (dPow x y)) fun y => M.lift ((dGe x y).bind asB)) fun k => if k = true then (M.bind (M.rd 4) fun x => M.bind (M.pure (.int 0)) fun y => M.lift ((dGt x y).bind asB)) else M.pure false)
    (Sf.seq (Sf.of (M.isL 5 (M.bind (M.map O.sh (M.bind (M.rd 4) fun x => M.bind (M.bind (M.rd 2) fun x => M.bind (M.rd 6) fun y => M.lift (dIx x y)) fun y => M.lift (dMod x y))) fun y => M.chL 5 (opAppend y))) fun _ => Sf.nx)
    (Sf.of (M.map O.sh (M.bind (M.rd 4) fun x => M.bind (M.bind (M.rd 2) fun x => M.bind (M.rd 6) fun y => M.lift (dIx x y)) fun y => M.lift (dDiv x y))) (Sf.putO 4)))
    (Sf.seq (Sf.of (M.map O.sh (M.bind (M.bind (M.bind (M.bind (M.rd 3) fun x => M.bind (M.bind (M.pure (.int 7919)) fun x => M.bind (M.rd 1) fun y => M.lift (dMul x y)) fun y => M.lift (dAdd x y)) fun x => M.bind (M.bind (M.bind (M.pure (.int 101)) fun x => M.bind (M.rd 6) fun y => M.lift (dMul x y)) fun x => M.bind (M.rd 6) fun y => M.lift (dMul x y)) fun y => M.lift (dAdd x y)) fun x => M.bind (M.rd 6) fun y => M.lift (dAdd x y)) fun x => M.bind (M.pure (.int 2147483647)) fun y => M.lift (dMod x y))) (Sf.putO 7))
    (Sf.seq (Sf.of (M.map O.sh (M.bind (M.bind (M.rd 7) fun x => M.bind (M.pure (.int 48271)) fun y => M.lift (dMul x y)) fun x => M.bind (M.pure (.int 2147483647)) fun y => M.lift (dMod x y))) (Sf.putO 7))
    (Sf.seq (Sf.of (M.map O.sh (M.bind (M.bind (M.bind (M.bind (M.rd 7) fun x => M.bind (M.rd 7) fun y => M.lift (dMul x y)) fun x => M.bind (M.pure (.int 2147483629)) fun y => M.lift (dMod x y)) fun x => M.bind (M.pure (.int 48271)) fun y => M.lift (dMul x y)) fun x => M.bind (M.pure (.int 2147483647)) fun y => M.lift (dMod x y))) (Sf.putO 7))
    (Sf.of (M.isL 5 (M.bind (M.map O.sh (M.bind (M.bind (M.rd 7) fun x => M.bind (M.pure (.int 16)) fun y => M.lift (dDiv x y)) fun x => M.bind (M.bind (M.rd 2) fun x => M.bind (M.rd 6) fun y => M.lift (dIx x y)) fun y => M.lift (dMod x y))) fun y => M.chL 5 (opAppend y))) fun _ => Sf.nx)))))
noncomputable def den_law_numbers : SF :=
  (Sf.seq (Sf.of (M.map O.sh (M.bind (M.bind (M.rd 0) fun x => M.bind (M.bind (M.bind (M.bind (M.pure (.int 1)) fun d => M.lift (dNeg d)) fun x => M.bind (M.rd 0) fun y => M.lift (dSub x y)) fun x => M.bind (M.pure []) fun xs => M.pure (x :: xs)) fun xs => M.pure (x :: xs)) fun l => M.lift (bMax l))) (Sf.putO 3))
    (Sf.seq (Sf.of (M.map O.sh (M.rd 3)) (Sf.putO 4))
    (Sf.seq (Sf.of (M.bind (M.pure []) fun l => M.lift (mkL l)) (Sf.putO 5))
    (Sf.seq (Sf.of (M.bind (M.bind (M.bind (M.bind (M.rd 2) fun x => M.bind (M.pure []) fun xs => M.pure (x :: xs)) fun l => M.lift (bLenX l)) fun x => M.bind (M.pure []) fun xs => M.pure (x :: xs)) fun l => M.lift (range1D l)) (forS (gPut 6)
    den_law_numbers_b1))
    (Sf.of (M.mv 5) Sf.rt)))))
noncomputable def G_law_numbers : List D → Option (Out O) := runF 8 den_law_numbers
noncomputable def den_law_web_2_e1 : M O :=
  (M.map O.sh (M.bind (M.rd 9) fun x => M.bind (M.pure (.int 1)) fun y => M.lift (dAdd x y)))
noncomputable def den_law_web_2_e2 : M O :=
  (M.map O.sh (M.bind (M.rd 4) fun x => M.bind (M.rd 9) fun y => M.lift (dSub x y)))
noncomputable def den_law_web_2_b3 : SF :=
  (Sf.of (M.isL 8 (M.bind (M.isL 7 (M.bind (M.bind (M.rd 6) fun x => M.bind (M.bind (M.bind (M.rd 4) fun x => M.bind (M.pure (.int 1)) fun y => M.lift (dAdd x y)) fun x => M.bind (M.rd 9) fun y => M.lift (dAdd x y)) fun y => M.lift (dIx x y)) fun d => M.bind (M.lift (asI d)) fun k => M.chL 7 (opPopAt k))) fun y => M.chL 8 (opAppend y))) fun _ => Sf.nx)
noncomputable def den_law_web_2_e4 : M O :=
  (M.map O.sh (M.bind (M.bind (M.bind (M.rd 9) fun x => M.bind (M.pure (.int 1)) fun y => M.lift (dAdd x y)) fun x => M.bind (M.bind (M.bind (M.rd 6) fun x => M.bind (M.bind (M.pure (.int 2)) fun x => M.bind (M.rd 9) fun y => M.lift (dAdd x y)) fun y => M.lift (dIx x y)) fun x => M.bind (M.pure []) fun xs => M.pure (x :: xs)) fun xs => M.pure (x :: xs)) fun l => M.lift (mkDT l)))
noncomputable def den_law_web_2_b5 : SF :=
  (Sf.of (M.isL 10 (M.bind (M.map O.sh (M.bind (M.bind (M.bind (M.rd 11) fun x => M.bind (M.rd 4) fun y => M.lift (dDiv x y)) fun x => M.bind (M.bind (M.bind (M.rd 11) fun x => M.bind (M.rd 4) fun y => M.lift (dMod x y)) fun x => M.bind (M.pure []) fun xs => M.pure (x :: xs)) fun xs => M.pure (x :: xs)) fun l => M.lift (mkDT l))) fun y => M.chL 10 (opAppend y))) fun _ => Sf.nx)
noncomputable def den_law_web_2_b6 : SF :=
  (Sf.ite (M.bind (M.rd 13) fun x => M.bind (M.rd 14) fun y => M.lift ((dNe x y).bind asB))
    (Sf.of (M.map O.sh (M.pure (.bool true))) fun v => Sf.has 12 (Sf.of (M.noex (M.bind (M.bind (M.pureS (M.bind (M.bind (M.bind (M.rd 8) fun x => M.bind (M.rd 13) fun y => M.lift (dIx x y)) fun x => M.bind (M.bind (M.bind (M.rd 8) fun x => M.bind (M.rd 14) fun y => M.lift (dIx x y)) fun x => M.bind (M.pure []) fun xs => M.pure (x :: xs)) fun xs => M.pure (x :: xs)) fun l => M.lift (bMin l))) fun x => M.bind (M.bind (M.pureS (M.bind (M.bind (M.bind (M.rd 8) fun x => M.bind (M.rd 13) fun y => M.lift (dIx x y)) fun x => M.bind (M.bind (M.bind (M.rd 8) fun x => M.bind (M.rd 14) fun y => M.lift (dIx x y)) fun x => M.bind (M.pure []) fun xs => M.pure (x :: xs)) fun xs => M.pure (x :: xs)) fun l => M.lift (bMax l))) fun x => M.bind (M.pure []) fun xs => M.pure (x :: xs)) fun xs => M.pure (x :: xs)) fun l => M.lift (mkDT l))) fun k => Sf.setIx 12 k v))
    Sf.nx)
noncomputable def den_law_web_2 : SF :=
  (Sf.seq (Sf.of (M.map O.sh (M.bind (M.pure (.int 1)) fun x => M.bind (M.bind (M.map O.erase (M.bind (M.bind (M.rd 0) fun x => M.bind (M.bind (M.rd 1) fun x => M.bind (M.bind (M.bind (M.bind (M.rd 2) fun x => M.bind (M.pure []) fun xs => M.pure (x :: xs)) fun l => M.lift (mkDL l)) fun x => M.bind (M.pure []) fun xs => M.pure (x :: xs)) fun xs => M.pure (x :: xs)) fun xs => M.pure (x :: xs)) fun l => if l.length + ([] : List D).length = 3 then M.call WT.G_law_numbers (l ++ []) else M.fail)) fun x => M.bind (M.pure (.int 0)) fun y => M.lift (dIx x y)) fun y => M.lift (dAdd x y))) (Sf.putO 4))
    (Sf.seq (Sf.of (M.map O.sh (M.bind (M.bind (M.bind (M.bind (M.rd 2) fun x => M.bind (M.bind (M.bind (M.rd 3) fun x => M.bind (M.pure (.int 1)) fun y => M.lift (dAdd x y)) fun x => M.bind (M.pure []) fun xs => M.pure (x :: xs)) fun xs => M.pure (x :: xs)) fun l => M.lift (mkDL l)) fun x => M.bind (M.map O.erase (compM [9] (M.bind (M.bind (M.bind (M.rd 4) fun x => M.bind (M.pure (.int 1)) fun y => M.lift (dSub x y)) fun x => M.bind (M.pure []) fun xs => M.pure (x :: xs)) fun l => M.lift (range1D l)) (gPut 9) (M.pure true) den_law_web_2_e1)) fun y => M.lift (dAdd x y)) fun x => M.bind (M.map O.erase (compM [9] (M.bind (M.bind (M.rd 4) fun x => M.bind (M.pure []) fun xs => M.pure (x :: xs)) fun l => M.lift (range1D l)) (gPut 9) (M.pure true) den_law_web_2_e2)) fun y => M.lift (dAdd x y))) (Sf.putO 5))
    (Sf.seq (Sf.of (M.map O.sh (M.map O.erase (M.bind (M.bind (M.rd 0) fun x => M.bind (M.bind (M.rd 1) fun x => M.bind (M.bind (M.bind (M.rd 5) fun x => M.bind (M.bind (M.bind (M.bind (M.bind (M.rd 4) fun x => M.bind (M.rd 4) fun y => M.lift (dMul x y)) fun x => M.bind (M.pure []) fun xs => M.pure (x :: xs)) fun l => M.lift (mkDL l)) fun x => M.bind (M.rd 3) fun y => M.lift (dMul x y)) fun y => M.lift (dAdd x y)) fun x => M.bind (M.pure []) fun xs => M.pure (x :: xs)) fun xs => M.pure (x :: xs)) fun xs => M.pure (x :: xs)) fun l => if l.length + ([] : List D).length = 3 then M.call WT.G_law_numbers (l ++ []) else M.fail))) (Sf.putO 6))
    (Sf.seq (Sf.of (M.bind (M.rd 4) fun d => M.lift (oRg1 d)) (Sf.putO 7))
    (Sf.seq (Sf.of (M.bind (M.pure []) fun l => M.lift (mkL l)) (Sf.putO 8))
    (Sf.seq (Sf.of (M.bind (M.bind (M.rd 4) fun x => M.bind (M.pure []) fun xs => M.pure (x :: xs)) fun l => M.lift (range1D l)) (forS (gPut 9)
    den_law_web_2_b3))
    (Sf.seq (Sf.of (compM [9] (M.bind (M.bind (M.bind (M.rd 4) fun x => M.bind (M.pure (.int 1)) fun y => M.lift (dSub x y)) fun x => M.bind (M.pure []) fun xs => M.pure (x :: xs)) fun l => M.lift (range1D l)) (gPut 9) (M.pure true) den_law_web_2_e4) (Sf.putO 10))
    (Sf.seq (Sf.of (M.bind (M.map O.erase (M.bind (M.rd 6) fun x => M.bind (M.bind (M.bind (M.bind (M.pure (.int 2)) fun x => M.bind (M.rd 4) fun y => M.lift (dMul x y)) fun x => M.bind (M.pure (.int 1)) fun y => M.lift (dAdd x y)) fun d => M.lift (asPart d)) fun l => M.bind (M.bind (M.bind (M.bind (M.bind (M.pure (.int 2)) fun x => M.bind (M.rd 4) fun y => M.lift (dMul x y)) fun x => M.bind (M.pure (.int 1)) fun y => M.lift (dAdd x y)) fun x => M.bind (M.bind (M.rd 6) fun x => M.bind (M.pure (.int 1)) fun y => M.lift (dIx x y)) fun y => M.lift (dAdd x y)) fun d => M.lift (asPart d)) fun u => M.lift (oSl x l u))) fun d => M.lift (asSeq d)) (forS (gPut 11)
    den_law_web_2_b5))
    (Sf.seq (Sf.of (M.pure (.dic [])) (Sf.putO 12))
    (Sf.seq (Sf.of (M.bind (M.rd 10) fun d => M.lift (asSeq d)) (forS (gTupD 2 (gConsD (gPut 13) (gConsD (gPut 14) gNilD)))
    den_law_web_2_b6))
    (Sf.of (M.bind (M.bind (M.map O.sh (M.rd 4)) fun x => M.bind (M.bind (M.bind (M.bind (M.rd 12) fun x => M.bind (M.pure []) fun xs => M.pure (x :: xs)) fun l => M.lift (oSorted l)) fun x => M.bind (M.pure []) fun xs => M.pure (x :: xs)) fun xs => M.pure (x :: xs)) fun l => M.lift (mkT l)) Sf.rt)))))))))))
noncomputable def G_law_web_2 : List D → Option (Out O) := runF 15 den_law_web_2
noncomputable def den_law_any_web_e1 : M O :=
  (M.map O.sh (M.rd 10))
noncomputable def den_law_any_web_c2 : M Bool :=
  (M.bind (M.rd 11) fun x => M.bind (M.bind (M.rd 4) fun x => M.bind (M.pure (.int 1)) fun y => M.lift (dIx x y)) fun y => M.lift ((dGe x y).bind asB))
noncomputable def den_law_any_web : SF :=
  (Sf.seq (Sf.of (M.map O.sh (M.map O.erase (M.bind (M.bind (M.rd 0) fun x => M.bind (M.bind (M.bind (M.bind (M.pure (.int 2)) fun x => M.bind (M.rd 1) fun y => M.lift (dMul x y)) fun x => M.bind (M.pure (.int 1)) fun y => M.lift (dAdd x y)) fun x => M.bind (M.pure []) fun xs => M.pure (x :: xs)) fun xs => M.pure (x :: xs)) fun l => if l.length + ([] : List D).length = 2 then M.call WT.G_law_cell_at (l ++ []) else M.fail))) (Sf.putO 3))
    (Sf.seq (Sf.of (M.map O.sh (M.map O.erase (M.bind (M.bind (M.rd 3) fun x => M.bind (M.bind (M.bind (M.rd 2) fun x => M.bind (M.pure (.int 1)) fun y => M.lift (dAdd x y)) fun x => M.bind (M.bind (M.bind (M.bind (M.pure (.int 8)) fun x => M.bind (M.bind (M.pure (.int 4)) fun x => M.bind (M.pure []) fun xs => M.pure (x :: xs)) fun xs => M.pure (x :: xs)) fun l => M.lift (mkDL l)) fun x => M.bind (M.pure []) fun xs => M.pure (x :: xs)) fun xs => M.pure (x :: xs)) fun xs => M.pure (x :: xs)) fun l => if l.length + ([] : List D).length = 3 then M.call WT.G_law_numbers (l ++ []) else M.fail))) (Sf.putO 4))
    (Sf.seq (Sf.of (M.bind (M.bind (M.bind (M.bind (M.bind (M.pure (.int 12)) fun x => M.bind (M.bind (M.pure (.int 8)) fun x => M.bind (M.pure []) fun xs => M.pure (x :: xs)) fun xs => M.pure (x :: xs)) fun l => M.lift (mkDT l)) fun x => M.bind (M.bind (M.bind (M.bind (M.pure (.int 40)) fun x => M.bind (M.bind (M.pure (.int 81)) fun x => M.bind (M.pure []) fun xs => M.pure (x :: xs)) fun xs => M.pure (x :: xs)) fun l => M.lift (mkDT l)) fun x => M.bind (M.pure []) fun xs => M.pure (x :: xs)) fun xs => M.pure (x :: xs)) fun l => M.lift (mkDL l)) fun x => M.bind (M.bind (M.bind (M.bind (M.bind (M.bind (M.rd 4) fun x => M.bind (M.pure (.int 0)) fun y => M.lift (dIx x y)) fun x => M.bind (M.pure (.int 7)) fun y => M.lift (dEq x y)) fun d => M.bind (M.lift (asB d)) fun k => if k = true then (M.bind (M.bind (M.rd 1) fun x => M.bind (M.pure (.int 4)) fun y => M.lift (dMod x y)) fun x => M.bind (M.pure (.int 0)) fun y => M.lift (dEq x y)) else M.pure (.bool false)) fun x => M.bind (M.pure []) fun xs => M.pure (x :: xs)) fun l => M.lift (bInt l)) fun y => M.lift (dIx x y)) fun d => Sf.puts ((gTupD 2 (gConsD (gPut 5) (gConsD (gPut 6) gNilD))) d))
    (Sf.seq (Sf.of (M.map O.erase (M.bind (M.bind (M.map O.erase (M.bind (M.bind (M.rd 0) fun x => M.bind (M.bind (M.bind (M.pure (.int 2)) fun x => M.bind (M.rd 1) fun y => M.lift (dMul x y)) fun x => M.bind (M.pure []) fun xs => M.pure (x :: xs)) fun xs => M.pure (x :: xs)) fun l => if l.length + ([] : List D).length = 2 then M.call WT.G_law_cell_at (l ++ []) else M.fail)) fun x => M.bind (M.bind (M.rd 2) fun x => M.bind (M.bind (M.rd 5) fun x => M.bind (M.bind (M.rd 6) fun x => M.bind (M.pure []) fun xs => M.pure (x :: xs)) fun xs => M.pure (x :: xs)) fun xs => M.pure (x :: xs)) fun xs => M.pure (x :: xs)) fun l => if l.length + ([] : List D).length = 4 then M.call WT.G_law_web_2 (l ++ []) else M.fail)) fun d => Sf.puts ((gTupD 2 (gConsD (gPut 7) (gConsD (gPut 8) gNilD))) d))
    (Sf.seq (Sf.of (M.map O.sh (M.map O.erase (M.bind (M.map O.erase (M.bind (M.bind (M.rd 3) fun x => M.bind (M.bind (M.bind (M.rd 2) fun x => M.bind (M.pure (.int 1)) fun y => M.lift (dAdd x y)) fun x => M.bind (M.bind (M.bind (M.bind (M.bind (M.pure (.int 8)) fun x => M.bind (M.bind (M.pure (.int 4)) fun x => M.bind (M.pure []) fun xs => M.pure (x :: xs)) fun xs => M.pure (x :: xs)) fun l => M.lift (mkDL l)) fun x => M.bind (M.bind (M.bind (M.bind (M.pure (.int 4)) fun x => M.bind (M.pure []) fun xs => M.pure (x :: xs)) fun l => M.lift (mkDL l)) fun x => M.bind (M.bind (M.bind (M.rd 8) fun x => M.bind (M.pure []) fun xs => M.pure (x :: xs)) fun l => M.lift (bLenX l)) fun y => M.lift (dMul x y)) fun y => M.lift (dAdd x y)) fun x => M.bind (M.pure []) fun xs => M.pure (x :: xs)) fun xs => M.pure (x :: xs)) fun xs => M.pure (x :: xs)) fun l => if l.length + ([] : List D).length = 3 then M.call WT.G_law_numbers (l ++ []) else M.fail)) fun x => M.bind (M.bind (M.pure (.int 2)) fun d => M.lift (asPart d)) fun l => M.bind (M.pure none) fun u => M.lift (oSl x l u)))) (Sf.putO 9))
    (Sf.of (M.bind (M.bind (M.map O.sh (M.rd 7)) fun x => M.bind (M.bind (compM [10, 11] (M.bind (M.bind (M.rd 8) fun x => M.bind (M.bind (M.rd 9) fun x => M.bind (M.pure []) fun xs => M.pure (x :: xs)) fun xs => M.pure (x :: xs)) fun l => M.lift (zipD l)) (gTupD 2 (gConsD (gPut 10) (gConsD (gPut 11) gNilD))) den_law_any_web_c2 den_law_any_web_e1) fun x => M.bind (M.pure []) fun xs => M.pure (x :: xs)) fun xs => M.pure (x :: xs)) fun l => M.lift (mkT l)) Sf.rt))))))
noncomputable def G_law_any_web : List D → Option (Out O) := runF 12 den_law_any_web
noncomputable def den_law_take : SF :=
  (Sf.seq (Sf.ite (M.pureT (M.bind (M.bind (M.rd 0) fun x => M.bind (M.pure (.int 0)) fun y => M.lift (dIx x y)) fun x => M.bind (M.pure (.int 0)) fun y => M.lift ((dGt x y).bind asB)))
    (Sf.seq (Sf.of (M.map O.sh (M.pureS (M.bind (M.bind (M.rd 0) fun x => M.bind (M.pure (.int 0)) fun y => M.lift (dIx x y)) fun x => M.bind (M.rd 1) fun y => M.lift (dMod x y)))) (Sf.putO 2))
    (Sf.seq (Sf.of (M.map O.sh (M.pureS (M.bind (M.bind (M.rd 0) fun x => M.bind (M.pure (.int 0)) fun y => M.lift (dIx x y)) fun x => M.bind (M.rd 1) fun y => M.lift (dDiv x y)))) fun v => Sf.has 0 (Sf.of (M.noex (M.pure (.int 0))) fun k => Sf.setIx 0 k v))
    (Sf.of (M.mv 2) Sf.rt)))
    Sf.nx)
    (Sf.seq (Sf.of (M.map O.sh (M.pureS (M.bind (M.bind (M.bind (M.bind (M.rd 0) fun x => M.bind (M.pure (.int 1)) fun y => M.lift (dIx x y)) fun x => M.bind (M.pure (.int 48271)) fun y => M.lift (dMul x y)) fun x => M.bind (M.pure (.int 11)) fun y => M.lift (dAdd x y)) fun x => M.bind (M.pure (.int 2147483647)) fun y => M.lift (dMod x y)))) fun v => Sf.has 0 (Sf.of (M.noex (M.pure (.int 1))) fun k => Sf.setIx 0 k v))
    (Sf.of (M.map O.sh (M.pureS (M.bind (M.bind (M.bind (M.bind (M.bind (M.rd 0) fun x => M.bind (M.pure (.int 1)) fun y => M.lift (dIx x y)) fun x => M.bind (M.bind (M.rd 0) fun x => M.bind (M.pure (.int 1)) fun y => M.lift (dIx x y)) fun y => M.lift (dMul x y)) fun x => M.bind (M.pure (.int 2147483629)) fun y => M.lift (dMod x y)) fun x => M.bind (M.pure (.int 16)) fun y => M.lift (dDiv x y)) fun x => M.bind (M.rd 1) fun y => M.lift (dMod x y)))) Sf.rt)))
noncomputable def G_law_take : O → List D → Option (O × O) := runM 3 den_law_take
noncomputable def den_law_bent_b1 : SF :=
  (Sf.of (M.isL 3 (M.bind (M.map O.sh (M.bind (M.bind (M.map O.erase (M.bind (M.rd 2) fun x => M.bind (M.pure none) fun l => M.bind (M.bind (M.rd 4) fun d => M.lift (asPart d)) fun u => M.lift (oSl x l u))) fun x => M.bind (M.bind (M.bind (M.rd 5) fun x => M.bind (M.pure []) fun xs => M.pure (x :: xs)) fun l => M.lift (mkDL l)) fun y => M.lift (dAdd x y)) fun x => M.bind (M.map O.erase (M.bind (M.rd 2) fun x => M.bind (M.bind (M.bind (M.rd 4) fun x => M.bind (M.pure (.int 1)) fun y => M.lift (dAdd x y)) fun d => M.lift (asPart d)) fun l => M.bind (M.pure none) fun u => M.lift (oSl x l u))) fun y => M.lift (dAdd x y))) fun y => M.chL 3 (opAppend y))) fun _ => Sf.nx)
noncomputable def den_law_bent : SF :=
  (Sf.seq (Sf.of (M.bind (M.bind (M.bind (M.rd 2) fun x => M.bind (M.pure none) fun l => M.bind (M.bind (M.bind (M.pure (.int 1)) fun d => M.lift (dNeg d)) fun d => M.lift (asPart d)) fun u => M.lift (oSl x l u)) fun x => M.bind (M.bind (M.map O.sh (M.bind (M.rd 2) fun x => M.bind (M.bind (M.bind (M.pure (.int 0)) fun x => M.bind (M.pure []) fun xs => M.pure (x :: xs)) fun l => M.lift (mkDL l)) fun y => M.lift (dAdd x y))) fun x => M.bind (M.bind (M.map O.sh (M.bind (M.bind (M.rd 2) fun x => M.bind (M.pure []) fun xs => M.pure (x :: xs)) fun l => M.lift (bTuple l))) fun x => M.bind (M.bind (M.map O.sh (M.pure .none)) fun x => M.bind (M.bind (M.map O.sh (M.pure (.int 0))) fun x => M.bind (M.bind (M.map O.sh (M.pure (.str "0"))) fun x => M.bind (M.bind (M.pure (.dic [])) fun x => M.bind (M.bind (M.map O.sh (M.bind (M.bind (M.rd 2) fun x => M.bind (M.pure []) fun xs => M.pure (x :: xs)) fun l => M.lift (mkDL l))) fun x => M.bind (M.pure []) fun xs => M.pure (x :: xs)) fun xs => M.pure (x :: xs)) fun xs => M.pure (x :: xs)) fun xs => M.pure (x :: xs)) fun xs => M.pure (x :: xs)) fun xs => M.pure (x :: xs)) fun xs => M.pure (x :: xs)) fun xs => M.pure (x :: xs)) fun l => M.lift (mkL l)) (Sf.putO 3))
    (Sf.seq (Sf.ite (M.bind (M.rd 2) fun x => M.bind (M.bind (M.pure []) fun l => M.lift (mkDL l)) fun y => M.lift ((dNe x y).bind asB))
    (Sf.seq (Sf.of (M.map O.sh (M.map O.erase (M.has 0 (M.bind (M.bind (M.bind (M.bind (M.rd 2) fun x => M.bind (M.pure []) fun xs => M.pure (x :: xs)) fun l => M.lift (bLenX l)) fun x => M.bind (M.pure []) fun xs => M.pure (x :: xs)) fun l => if l.length + 1 = 2 then M.callM 0 WT.G_law_take l else M.fail)))) (Sf.putO 4))
    (Sf.of (M.bind (M.bind (M.bind (M.bind (M.bind (M.rd 1) fun x => M.bind (M.rd 4) fun y => M.lift (dIx x y)) fun x => M.bind (M.pure (.int 0)) fun y => M.lift (dIx x y)) fun x => M.bind (M.bind (M.bind (M.pure (.int 1)) fun d => M.lift (dNeg d)) fun x => M.bind (M.bind (M.pure (.bool true)) fun x => M.bind (M.bind (M.pure (.bool false)) fun x => M.bind (M.bind (M.pure .none) fun x => M.bind (M.bind (M.pure (.str "0")) fun x => M.bind (M.bind (M.bind (M.pure (.int 10)) fun x => M.bind (M.pure (.int 30)) fun y => M.lift (dPow x y)) fun x => M.bind (M.pure []) fun xs => M.pure (x :: xs)) fun xs => M.pure (x :: xs)) fun xs => M.pure (x :: xs)) fun xs => M.pure (x :: xs)) fun xs => M.pure (x :: xs)) fun xs => M.pure (x :: xs)) fun xs => M.pure (x :: xs)) fun l => M.lift (mkDL l)) fun d => M.lift (asSeq d)) (forS (gPut 5)
    den_law_bent_b1)))
    Sf.nx)
    (Sf.of (M.mv 3) Sf.rt)))
noncomputable def G_law_bent : O → List D → Option (O × O) := runM 6 den_law_bent
noncomputable def den_law_copied_e1 : M O :=
  (M.bind (M.bind (M.map O.sh (M.rd 1)) fun x => M.bind (M.bind (M.bind (M.bind (M.rd 2) fun x => M.bind (M.pure []) fun xs => M.pure (x :: xs)) fun l => M.lift (oList l)) fun x => M.bind (M.pure []) fun xs => M.pure (x :: xs)) fun xs => M.pure (x :: xs)) fun l => M.lift (mkT l))
noncomputable def den_law_copied : SF :=
  (Sf.of (compM [1, 2] (M.bind (M.rd 0) fun d => M.lift (asSeq d)) (gTupD 2 (gConsD (gPut 1) (gConsD (gPut 2) gNilD))) (M.pure true) den_law_copied_e1) Sf.rt)
noncomputable def G_law_copied : List D → Option (Out O) := runF 3 den_law_copied
noncomputable def den_law_is_row_e1 : M O :=
  (M.map O.sh (M.rd 2))
noncomputable def den_law_is_row_c2 : M Bool :=
  (M.bind (M.bind (M.bind (M.map O.erase (M.bind (M.bind (M.bind (M.rd 1) fun x => M.bind (M.rd 2) fun y => M.lift (dIx x y)) fun x => M.bind (M.pure []) fun xs => M.pure (x :: xs)) fun l => if l.length + ([] : List D).length = 1 then M.call WT.G_is_whole (l ++ []) else M.fail)) fun d => M.lift (asB d)) fun k => M.pure (!k)) fun k => if k = true then M.pure true else (M.bind (M.bind (chainM (M.pure (.int 0)) (M.bind (M.rd 1) fun x => M.bind (M.rd 2) fun y => M.lift (dIx x y)) (M.bind (M.bind (M.rd 0) fun x => M.bind (M.rd 2) fun y => M.lift (dIx x y)) fun x => M.bind (M.pure (.int 0)) fun y => M.lift (dIx x y)) dLe dLt) fun d => M.lift (asB d)) fun k => M.pure (!k)))
noncomputable def den_law_is_row : SF :=
  (Sf.seq (Sf.ite (M.bind (M.bind (M.bind (M.bind (M.rd 1) fun d => M.pure (.bool (PyData.isList d))) fun d => M.lift (asB d)) fun k => M.pure (!k)) fun k => if k = true then M.pure true else (M.bind (M.bind (M.bind (M.rd 1) fun x => M.bind (M.pure []) fun xs => M.pure (x :: xs)) fun l => M.lift (bLenX l)) fun x => M.bind (M.bind (M.bind (M.rd 0) fun x => M.bind (M.pure []) fun xs => M.pure (x :: xs)) fun l => M.lift (bLenX l)) fun y => M.lift ((dNe x y).bind asB)))
    (Sf.of (M.map O.sh (M.pure (.bool false))) Sf.rt)
    Sf.nx)
    (Sf.of (M.map O.sh (M.bind (M.map O.erase (compM [2] (M.bind (M.bind (M.bind (M.bind (M.rd 0) fun x => M.bind (M.pure []) fun xs => M.pure (x :: xs)) fun l => M.lift (bLenX l)) fun x => M.bind (M.pure []) fun xs => M.pure (x :: xs)) fun l => M.lift (range1D l)) (gPut 2) den_law_is_row_c2 den_law_is_row_e1)) fun x => M.bind (M.bind (M.pure []) fun l => M.lift (mkDL l)) fun y => M.lift (dEq x y))) Sf.rt))
noncomputable def G_law_is_row : List D → Option (Out O) := runF 3 den_law_is_row
noncomputable def den_law_web_3_e1 : M O :=
  (M.isL 4 (M.bind (M.map O.erase (M.has 0 (M.bind (M.bind (M.pureS (M.bind (M.bind (M.rd 4) fun x => M.bind (M.pure []) fun xs => M.pure (x :: xs)) fun l => M.lift (bLenX l))) fun x => M.bind (M.pure []) fun xs => M.pure (x :: xs)) fun l => if l.length + 1 = 2 then M.callM 0 WT.G_law_take l else M.fail))) fun d => M.bind (M.lift (asI d)) fun k => M.chL 4 (opPopAt k)))
noncomputable def den_law_web_3_e2 : M O :=
  (M.bind (M.bind (M.map O.sh (M.rd 7)) fun x => M.bind (M.bind (M.has 0 (M.bind (M.bind (M.rd 7) fun x => M.bind (M.pure []) fun xs => M.pure (x :: xs)) fun l => if l.length + 1 = 2 then M.callM 0 WT.G_law_take l else M.fail)) fun x => M.bind (M.pure []) fun xs => M.pure (x :: xs)) fun xs => M.pure (x :: xs)) fun l => M.lift (mkT l))
noncomputable def den_law_web_3_b3 : SF :=
  (Sf.of (M.isL 6 (M.bind (M.bind (M.bind (M.has 0 (M.bind (M.bind (M.rd 3) fun x => M.bind (M.pure []) fun xs => M.pure (x :: xs)) fun l => if l.length + 1 = 2 then M.callM 0 WT.G_law_take l else M.fail)) fun x => M.bind (M.bind (M.has 0 (M.bind (M.bind (M.rd 3) fun x => M.bind (M.pure []) fun xs => M.pure (x :: xs)) fun l => if l.length + 1 = 2 then M.callM 0 WT.G_law_take l else M.fail)) fun x => M.bind (M.pure []) fun xs => M.pure (x :: xs)) fun xs => M.pure (x :: xs)) fun l => M.lift (mkT l)) fun y => M.chL 6 (opAppend y))) fun _ => Sf.nx)
noncomputable def den_law_web_3_b4 : SF :=
  (Sf.ite (M.bind (M.rd 9) fun x => M.bind (M.rd 10) fun y => M.lift ((dNe x y).bind asB))
    (Sf.of (M.map O.sh (M.pure (.bool true))) fun v => Sf.has 8 (Sf.of (M.noex (M.bind (M.bind (M.bind (M.bind (M.bind (M.rd 5) fun x => M.bind (M.rd 9) fun y => M.lift (dIx x y)) fun x => M.bind (M.bind (M.bind (M.rd 5) fun x => M.bind (M.rd 10) fun y => M.lift (dIx x y)) fun x => M.bind (M.pure []) fun xs => M.pure (x :: xs)) fun xs => M.pure (x :: xs)) fun l => M.lift (bMin l)) fun x => M.bind (M.bind (M.bind (M.bind (M.bind (M.rd 5) fun x => M.bind (M.rd 9) fun y => M.lift (dIx x y)) fun x => M.bind (M.bind (M.bind (M.rd 5) fun x => M.bind (M.rd 10) fun y => M.lift (dIx x y)) fun x => M.bind (M.pure []) fun xs => M.pure (x :: xs)) fun xs => M.pure (x :: xs)) fun l => M.lift (bMax l)) fun x => M.bind (M.pure []) fun xs => M.pure (x :: xs)) fun xs => M.pure (x :: xs)) fun l => M.lift (mkDT l))) fun k => Sf.setIx 8 k v))
    Sf.nx)
noncomputable def den_law_web_3 : SF :=
  (Sf.seq (Sf.of (M.map O.sh (M.bind (M.pure (.int 1)) fun x => M.bind (M.map O.erase (M.has 0 (M.bind (M.bind (M.rd 1) fun x => M.bind (M.pure []) fun xs => M.pure (x :: xs)) fun l => if l.length + 1 = 2 then M.callM 0 WT.G_law_take l else M.fail))) fun y => M.lift (dAdd x y))) (Sf.putO 3))
    (Sf.seq (Sf.of (M.bind (M.rd 3) fun d => M.lift (oRg1 d)) (Sf.putO 4))
    (Sf.seq (Sf.of (compM [7] (M.bind (M.bind (M.rd 3) fun x => M.bind (M.pure []) fun xs => M.pure (x :: xs)) fun l => M.lift (range1D l)) (gPut 7) (M.pure true) den_law_web_3_e1) (fun o => Sf.putO 5 (.sh o.erase)))
    (Sf.seq (Sf.of (compM [7] (M.bind (M.bind (M.pure (.int 1)) fun x => M.bind (M.bind (M.rd 3) fun x => M.bind (M.pure []) fun xs => M.pure (x :: xs)) fun xs => M.pure (x :: xs)) fun l => M.lift (range2D l)) (gPut 7) (M.pure true) den_law_web_3_e2) (Sf.putO 6))
    (Sf.seq (Sf.of (M.bind (M.bind (M.map O.erase (M.has 0 (M.bind (M.bind (M.bind (M.rd 2) fun x => M.bind (M.pure (.int 1)) fun y => M.lift (dAdd x y)) fun x => M.bind (M.pure []) fun xs => M.pure (x :: xs)) fun l => if l.length + 1 = 2 then M.callM 0 WT.G_law_take l else M.fail))) fun x => M.bind (M.pure []) fun xs => M.pure (x :: xs)) fun l => M.lift (range1D l)) (forS (gPut 7)
    den_law_web_3_b3))
    (Sf.seq (Sf.of (M.pure (.dic [])) (Sf.putO 8))
    (Sf.seq (Sf.of (M.bind (M.rd 6) fun d => M.lift (asSeq d)) (forS (gTupD 2 (gConsD (gPut 9) (gConsD (gPut 10) gNilD)))
    den_law_web_3_b4))
    (Sf.of (M.bind (M.bind (M.map O.sh (M.rd 3)) fun x => M.bind (M.bind (M.bind (M.bind (M.rd 8) fun x => M.bind (M.pure []) fun xs => M.pure (x :: xs)) fun l => M.lift (oSorted l)) fun x => M.bind (M.pure []) fun xs => M.pure (x :: xs)) fun xs => M.pure (x :: xs)) fun l => M.lift (mkT l)) Sf.rt))))))))
noncomputable def G_law_web_3 : O → List D → Option (O × O) := runM 11 den_law_web_3
noncomputable def den_law_loose_e1 : M O :=
  (M.map O.sh (M.rd 5))
noncomputable def den_law_loose_c2 : M Bool :=
  (M.bind (M.map O.erase (M.has 0 (M.bind (M.bind (M.pure (.int 3)) fun x => M.bind (M.pure []) fun xs => M.pure (x :: xs)) fun l => if l.length + 1 = 2 then M.callM 0 WT.G_law_take l else M.fail))) fun x => M.bind (M.pure (.int 0)) fun y => M.lift ((dGt x y).bind asB))
noncomputable def den_law_loose : SF :=
  (Sf.seq (Sf.of (M.map O.erase (M.has 0 (M.bind (M.bind (M.rd 1) fun x => M.bind (M.bind (M.rd 2) fun x => M.bind (M.pure []) fun xs => M.pure (x :: xs)) fun xs => M.pure (x :: xs)) fun l => if l.length + 1 = 3 then M.callM 0 WT.G_law_web_3 l else M.fail))) fun d => Sf.puts ((gTupD 2 (gConsD (gPut 3) (gConsD (gPut 4) gNilD))) d))
    (Sf.seq (Sf.ite (M.bind (M.map O.erase (M.has 0 (M.bind (M.bind (M.pure (.int 4)) fun x => M.bind (M.pure []) fun xs => M.pure (x :: xs)) fun l => if l.length + 1 = 2 then M.callM 0 WT.G_law_take l else M.fail))) fun x => M.bind (M.pure (.int 0)) fun y => M.lift ((dEq x y).bind asB))
    (Sf.of (compM [5] (M.bind (M.rd 4) fun d => M.lift (asSeq d)) (gPut 5) den_law_loose_c2 den_law_loose_e1) (fun o => Sf.putO 4 (.sh o.erase)))
    Sf.nx)
    (Sf.of (M.map O.sh (M.bind (M.bind (M.rd 3) fun x => M.bind (M.bind (M.rd 4) fun x => M.bind (M.pure []) fun xs => M.pure (x :: xs)) fun xs => M.pure (x :: xs)) fun l => M.lift (mkDT l))) Sf.rt)))
noncomputable def G_law_loose : O → List D → Option (O × O) := runM 6 den_law_loose
noncomputable def den_law_pool : SF :=
  (Sf.seq (Sf.of (M.map O.sh (M.pure (.int 0))) (Sf.putO 2))
    (Sf.seq (Sf.ite (M.bind (M.rd 1) fun x => M.bind (M.bind (M.bind (M.rd 0) fun x => M.bind (M.pure []) fun xs => M.pure (x :: xs)) fun l => M.lift (bLenX l)) fun y => M.lift ((dLt x y).bind asB))
    (Sf.of (M.map O.sh (M.bind (M.rd 0) fun x => M.bind (M.rd 1) fun y => M.lift (dIx x y))) (Sf.putO 2))
    Sf.nx)
    (Sf.seq (Sf.of (M.map O.sh (M.bind (M.bind (M.bind (M.bind (M.bind (M.bind (M.rd 2) fun x => M.bind (M.bind (M.bind (M.bind (M.pure (.int 1)) fun d => M.lift (dNeg d)) fun x => M.bind (M.rd 2) fun y => M.lift (dSub x y)) fun x => M.bind (M.pure []) fun xs => M.pure (x :: xs)) fun xs => M.pure (x :: xs)) fun l => M.lift (bMax l)) fun x => M.bind (M.bind (M.bind (M.pure (.int 7919)) fun x => M.bind (M.rd 1) fun y => M.lift (dMul x y)) fun x => M.bind (M.rd 1) fun y => M.lift (dMul x y)) fun y => M.lift (dAdd x y)) fun x => M.bind (M.bind (M.pure (.int 104729)) fun x => M.bind (M.rd 1) fun y => M.lift (dMul x y)) fun y => M.lift (dAdd x y)) fun x => M.bind (M.pure (.int 17)) fun y => M.lift (dAdd x y)) fun x => M.bind (M.pure (.int 2147483629)) fun y => M.lift (dMod x y))) (Sf.putO 3))
    (Sf.seq (Sf.of (M.map O.sh (M.pure (.int 0))) (Sf.putO 4))
    (Sf.seq (Sf.ite (M.bind (M.rd 2) fun x => M.bind (M.bind (M.pure (.int 10)) fun x => M.bind (M.pure (.int 18)) fun y => M.lift (dPow x y)) fun y => M.lift ((dGe x y).bind asB))
    (Sf.of (M.map O.sh (M.rd 2)) (Sf.putO 4))
    Sf.nx)
    (Sf.of (M.bind (M.bind (M.map O.sh (M.rd 4)) fun x => M.bind (M.bind (M.map O.sh (M.bind (M.bind (M.rd 3) fun x => M.bind (M.pure (.int 48271)) fun y => M.lift (dMul x y)) fun x => M.bind (M.pure (.int 2147483647)) fun y => M.lift (dMod x y))) fun x => M.bind (M.pure []) fun xs => M.pure (x :: xs)) fun xs => M.pure (x :: xs)) fun l => M.lift (mkL l)) Sf.rt))))))
noncomputable def G_law_pool : List D → Option (Out O) := runF 5 den_law_pool
noncomputable def den_law_own_e1 : M O :=
  (M.map O.sh (M.rd 5))
noncomputable def den_law_own_c2 : M Bool :=
  (M.bind (M.rd 3) fun x => M.bind (M.rd 5) fun y => M.lift ((dInX x y).bind asB))
noncomputable def den_law_own_b3 : SF :=
  (Sf.of (M.map O.sh (M.bind (M.rd 2) fun x => M.bind (M.bind (M.bind (M.map O.erase (compM [5] (M.bind (M.bind (M.rd 4) fun x => M.bind (M.pure (.int 1)) fun y => M.lift (dIx x y)) fun d => M.lift (asSeq d)) (gPut 5) den_law_own_c2 den_law_own_e1)) fun x => M.bind (M.pure []) fun xs => M.pure (x :: xs)) fun l => M.lift (bLenX l)) fun y => M.lift (dAdd x y))) (Sf.putO 2))
noncomputable def den_law_own : SF :=
  (Sf.seq (Sf.of (M.map O.sh (M.pure (.int 0))) (Sf.putO 2))
    (Sf.seq (Sf.of (M.bind (M.bind (M.rd 1) fun x => M.bind (M.bind (M.rd 0) fun x => M.bind (M.pure []) fun xs => M.pure (x :: xs)) fun xs => M.pure (x :: xs)) fun l => M.lift (zipD l)) (forS (gTupD 2 (gConsD (gPut 3) (gConsD (gPut 4) gNilD)))
    den_law_own_b3))
    (Sf.of (M.mv 2) Sf.rt)))
noncomputable def G_law_own : List D → Option (Out O) := runF 6 den_law_own
noncomputable def den_law_web_of_e1 : M O :=
  (M.map O.sh (M.rd 2))
noncomputable def den_law_web_of_c2 : M Bool :=
  (M.bind (M.bind (M.rd 0) fun x => M.bind (M.rd 2) fun y => M.lift (dIx x y)) fun x => M.bind (M.bind (M.rd 1) fun x => M.bind (M.rd 2) fun y => M.lift (dIx x y)) fun y => M.lift ((dNe x y).bind asB))
noncomputable def den_law_web_of : SF :=
  (Sf.of (compM [2] (M.bind (M.bind (M.bind (M.bind (M.rd 0) fun x => M.bind (M.pure []) fun xs => M.pure (x :: xs)) fun l => M.lift (bLenX l)) fun x => M.bind (M.pure []) fun xs => M.pure (x :: xs)) fun l => M.lift (range1D l)) (gPut 2) den_law_web_of_c2 den_law_web_of_e1) Sf.rt)
noncomputable def G_law_web_of : List D → Option (Out O) := runF 3 den_law_web_of
noncomputable def den_look_at_row : SF :=
  (Sf.ite (M.bind (M.bind (M.map O.erase (M.bind (M.bind (M.rd 0) fun x => M.bind (M.bind (M.rd 1) fun x => M.bind (M.pure []) fun xs => M.pure (x :: xs)) fun xs => M.pure (x :: xs)) fun l => if l.length + ([] : List D).length = 2 then M.call WT.G_is_row_in (l ++ []) else M.fail)) fun d => M.lift (asB d)) fun k => M.pure (!k))
    Sf.never
    Sf.nx)
noncomputable def G_look_at_row : List D → Option (Out O) := runF 2 den_look_at_row
noncomputable def den_number_in_b1 : SF :=
  (Sf.of (M.map O.sh (M.bind (M.bind (M.rd 2) fun x => M.bind (M.bind (M.rd 4) fun x => M.bind (M.pure (.int 0)) fun y => M.lift (dIx x y)) fun y => M.lift (dMul x y)) fun x => M.bind (M.rd 3) fun y => M.lift (dAdd x y))) (Sf.putO 2))
noncomputable def den_number_in : SF :=
  (Sf.seq (Sf.of (M.map O.sh (M.pure (.int 0))) (Sf.putO 2))
    (Sf.seq (Sf.of (M.bind (M.bind (M.rd 1) fun x => M.bind (M.bind (M.rd 0) fun x => M.bind (M.pure []) fun xs => M.pure (x :: xs)) fun xs => M.pure (x :: xs)) fun l => M.lift (zipD l)) (forS (gTupD 2 (gConsD (gPut 3) (gConsD (gPut 4) gNilD)))
    den_number_in_b1))
    (Sf.of (M.mv 2) Sf.rt)))
noncomputable def G_number_in : List D → Option (Out O) := runF 5 den_number_in
noncomputable def den_number_of : SF :=
  (Sf.seq (Sf.of (M.bind (M.bind (M.rd 0) fun x => M.bind (M.pure []) fun xs => M.pure (x :: xs)) fun l => if l.length + ([] : List D).length = 1 then M.call WT.G_look_at_webs (l ++ []) else M.fail) fun _ => Sf.nx)
    (Sf.seq (Sf.of (M.bind (M.bind (M.rd 0) fun x => M.bind (M.bind (M.rd 1) fun x => M.bind (M.pure []) fun xs => M.pure (x :: xs)) fun xs => M.pure (x :: xs)) fun l => if l.length + ([] : List D).length = 2 then M.call WT.G_look_at_row (l ++ []) else M.fail) fun _ => Sf.nx)
    (Sf.of (M.bind (M.bind (M.rd 0) fun x => M.bind (M.bind (M.rd 1) fun x => M.bind (M.pure []) fun xs => M.pure (x :: xs)) fun xs => M.pure (x :: xs)) fun l => if l.length + ([] : List D).length = 2 then M.call WT.G_number_in (l ++ []) else M.fail) Sf.rt)))
noncomputable def G_number_of : List D → Option (Out O) := runF 2 den_number_of
noncomputable def den_places_in_b1 : SF :=
  (Sf.of (M.map O.sh (M.bind (M.rd 1) fun x => M.bind (M.rd 2) fun y => M.lift (dMul x y))) (Sf.putO 1))
noncomputable def den_places_in : SF :=
  (Sf.seq (Sf.of (M.map O.sh (M.pure (.int 1))) (Sf.putO 1))
    (Sf.seq (Sf.of (M.bind (M.rd 0) fun d => M.lift (asSeq d)) (forS (gTupD 2 (gConsD (gPut 2) (gConsD (gPut 3) gNilD)))
    den_places_in_b1))
    (Sf.of (M.mv 1) Sf.rt)))
noncomputable def G_places_in : List D → Option (Out O) := runF 4 den_places_in
noncomputable def den_row_in_b1 : SF :=
  (Sf.seq (Sf.of (M.isL 2 (M.bind (M.map O.sh (M.bind (M.rd 1) fun x => M.bind (M.rd 3) fun y => M.lift (dMod x y))) fun y => M.chL 2 (opAppend y))) fun _ => Sf.nx)
    (Sf.of (M.map O.sh (M.bind (M.rd 1) fun x => M.bind (M.rd 3) fun y => M.lift (dDiv x y))) (Sf.putO 1)))
noncomputable def den_row_in : SF :=
  (Sf.seq (Sf.of (M.bind (M.pure []) fun l => M.lift (mkL l)) (Sf.putO 2))
    (Sf.seq (Sf.of (M.bind (M.map O.erase (M.bind (M.rd 0) fun x => M.lift (oRev x))) fun d => M.lift (asSeq d)) (forS (gTupD 2 (gConsD (gPut 3) (gConsD (gPut 4) gNilD)))
    den_row_in_b1))
    (Sf.of (M.bind (M.rd 2) fun x => M.lift (oRev x)) Sf.rt)))
noncomputable def G_row_in : List D → Option (Out O) := runF 5 den_row_in
noncomputable def den_row_of : SF :=
  (Sf.seq (Sf.of (M.bind (M.bind (M.rd 0) fun x => M.bind (M.pure []) fun xs => M.pure (x :: xs)) fun l => if l.length + ([] : List D).length = 1 then M.call WT.G_look_at_webs (l ++ []) else M.fail) fun _ => Sf.nx)
    (Sf.seq (Sf.ite (M.bind (M.bind (M.bind (M.map O.erase (M.bind (M.bind (M.rd 1) fun x => M.bind (M.pure []) fun xs => M.pure (x :: xs)) fun l => if l.length + ([] : List D).length = 1 then M.call WT.G_is_whole (l ++ []) else M.fail)) fun d => M.lift (asB d)) fun k => M.pure (!k)) fun k => if k = true then M.pure true else (M.bind (M.bind (chainM (M.pure (.int 0)) (M.rd 1) (M.map O.erase (M.bind (M.bind (M.rd 0) fun x => M.bind (M.pure []) fun xs => M.pure (x :: xs)) fun l => if l.length + ([] : List D).length = 1 then M.call WT.G_places_in (l ++ []) else M.fail)) dLe dLt) fun d => M.lift (asB d)) fun k => M.pure (!k)))
    Sf.never
    Sf.nx)
    (Sf.of (M.bind (M.bind (M.rd 0) fun x => M.bind (M.bind (M.rd 1) fun x => M.bind (M.pure []) fun xs => M.pure (x :: xs)) fun xs => M.pure (x :: xs)) fun l => if l.length + ([] : List D).length = 2 then M.call WT.G_row_in (l ++ []) else M.fail) Sf.rt)))
noncomputable def G_row_of : List D → Option (Out O) := runF 2 den_row_of
noncomputable def den_rows_beside_e1 : M O :=
  (M.bind (M.bind (M.rd 2) fun x => M.bind (M.pure []) fun xs => M.pure (x :: xs)) fun l => if l.length + ([] : List D).length = 1 then M.call WT.G_beside_all (l ++ []) else M.fail)
noncomputable def den_rows_beside : SF :=
  (Sf.seq (Sf.of (M.bind (M.bind (M.rd 0) fun x => M.bind (M.pure []) fun xs => M.pure (x :: xs)) fun l => if l.length + ([] : List D).length = 1 then M.call WT.G_look_at_webs (l ++ []) else M.fail) fun _ => Sf.nx)
    (Sf.seq (Sf.of (M.bind (M.bind (M.rd 0) fun x => M.bind (M.bind (M.rd 1) fun x => M.bind (M.pure []) fun xs => M.pure (x :: xs)) fun xs => M.pure (x :: xs)) fun l => if l.length + ([] : List D).length = 2 then M.call WT.G_look_at_row (l ++ []) else M.fail) fun _ => Sf.nx)
    (Sf.of (M.bind (M.bind (M.map O.erase (compM [2] (M.bind (M.rd 0) fun d => M.lift (asSeq d)) (gPut 2) (M.pure true) den_rows_beside_e1)) fun x => M.bind (M.bind (M.rd 1) fun x => M.bind (M.pure []) fun xs => M.pure (x :: xs)) fun xs => M.pure (x :: xs)) fun l => if l.length + ([] : List D).length = 2 then M.call WT.G_beside_by (l ++ []) else M.fail) Sf.rt)))
noncomputable def G_rows_beside : List D → Option (Out O) := runF 3 den_rows_beside
noncomputable def den_tied_in_e1 : M O :=
  (M.map O.sh (M.rd 4))
noncomputable def den_tied_in_c2 : M Bool :=
  (M.bind (M.bind (M.rd 1) fun x => M.bind (M.rd 4) fun y => M.lift (dIx x y)) fun x => M.bind (M.bind (M.rd 2) fun x => M.bind (M.rd 4) fun y => M.lift (dIx x y)) fun y => M.lift ((dNe x y).bind asB))
noncomputable def den_tied_in : SF :=
  (Sf.seq (Sf.of (compM [4] (M.bind (M.bind (M.bind (M.bind (M.rd 0) fun x => M.bind (M.pure []) fun xs => M.pure (x :: xs)) fun l => M.lift (bLenX l)) fun x => M.bind (M.pure []) fun xs => M.pure (x :: xs)) fun l => M.lift (range1D l)) (gPut 4) den_tied_in_c2 den_tied_in_e1) (fun o => Sf.putO 3 (.sh o.erase)))
    (Sf.seq (Sf.ite (M.bind (M.bind (M.bind (M.rd 3) fun x => M.bind (M.pure []) fun xs => M.pure (x :: xs)) fun l => M.lift (bLenX l)) fun x => M.bind (M.pure (.int 1)) fun y => M.lift ((dNe x y).bind asB))
    (Sf.of (M.map O.sh (M.pure (.bool false))) Sf.rt)
    Sf.nx)
    (Sf.seq (Sf.of (M.map O.sh (M.bind (M.rd 3) fun x => M.bind (M.pure (.int 0)) fun y => M.lift (dIx x y))) (Sf.putO 4))
    (Sf.of (M.map O.sh (M.bind (M.bind (M.bind (M.bind (M.bind (M.bind (M.rd 1) fun x => M.bind (M.rd 4) fun y => M.lift (dIx x y)) fun x => M.bind (M.bind (M.bind (M.rd 2) fun x => M.bind (M.rd 4) fun y => M.lift (dIx x y)) fun x => M.bind (M.pure []) fun xs => M.pure (x :: xs)) fun xs => M.pure (x :: xs)) fun l => M.lift (bMin l)) fun x => M.bind (M.bind (M.bind (M.bind (M.bind (M.rd 1) fun x => M.bind (M.rd 4) fun y => M.lift (dIx x y)) fun x => M.bind (M.bind (M.bind (M.rd 2) fun x => M.bind (M.rd 4) fun y => M.lift (dIx x y)) fun x => M.bind (M.pure []) fun xs => M.pure (x :: xs)) fun xs => M.pure (x :: xs)) fun l => M.lift (bMax l)) fun x => M.bind (M.pure []) fun xs => M.pure (x :: xs)) fun xs => M.pure (x :: xs)) fun l => M.lift (mkDT l)) fun x => M.bind (M.bind (M.bind (M.rd 0) fun x => M.bind (M.rd 4) fun y => M.lift (dIx x y)) fun x => M.bind (M.pure (.int 1)) fun y => M.lift (dIx x y)) fun y => M.lift (dInX x y))) Sf.rt))))
noncomputable def G_tied_in : List D → Option (Out O) := runF 5 den_tied_in
noncomputable def den_rows_tied : SF :=
  (Sf.seq (Sf.of (M.bind (M.bind (M.rd 0) fun x => M.bind (M.pure []) fun xs => M.pure (x :: xs)) fun l => if l.length + ([] : List D).length = 1 then M.call WT.G_look_at_webs (l ++ []) else M.fail) fun _ => Sf.nx)
    (Sf.seq (Sf.of (M.bind (M.bind (M.rd 0) fun x => M.bind (M.bind (M.rd 1) fun x => M.bind (M.pure []) fun xs => M.pure (x :: xs)) fun xs => M.pure (x :: xs)) fun l => if l.length + ([] : List D).length = 2 then M.call WT.G_look_at_row (l ++ []) else M.fail) fun _ => Sf.nx)
    (Sf.seq (Sf.of (M.bind (M.bind (M.rd 0) fun x => M.bind (M.bind (M.rd 2) fun x => M.bind (M.pure []) fun xs => M.pure (x :: xs)) fun xs => M.pure (x :: xs)) fun l => if l.length + ([] : List D).length = 2 then M.call WT.G_look_at_row (l ++ []) else M.fail) fun _ => Sf.nx)
    (Sf.of (M.bind (M.bind (M.rd 0) fun x => M.bind (M.bind (M.rd 1) fun x => M.bind (M.bind (M.rd 2) fun x => M.bind (M.pure []) fun xs => M.pure (x :: xs)) fun xs => M.pure (x :: xs)) fun xs => M.pure (x :: xs)) fun l => if l.length + ([] : List D).length = 3 then M.call WT.G_tied_in (l ++ []) else M.fail) Sf.rt))))
noncomputable def G_rows_tied : List D → Option (Out O) := runF 3 den_rows_tied
noncomputable def den_law_row_right_b1 : SF :=
  (Sf.seq (Sf.of (M.map O.sh (M.bind (M.rd 3) fun x => M.bind (M.map O.erase (M.has 0 (M.bind (M.bind (M.bind (M.bind (M.rd 3) fun x => M.bind (M.pure []) fun xs => M.pure (x :: xs)) fun l => M.lift (bLenX l)) fun x => M.bind (M.pure []) fun xs => M.pure (x :: xs)) fun l => if l.length + 1 = 2 then M.callM 0 WT.G_law_take l else M.fail))) fun y => M.lift (dIx x y))) (Sf.putO 6))
    (Sf.seq (Sf.ite (M.bind (M.bind (M.bind (M.map O.erase (M.bind (M.bind (M.rd 1) fun x => M.bind (M.bind (M.rd 6) fun x => M.bind (M.pure []) fun xs => M.pure (x :: xs)) fun xs => M.pure (x :: xs)) fun l => if l.length + ([] : List D).length = 2 then M.call WT.G_is_row (l ++ []) else M.fail)) fun d => M.lift (asB d)) fun k => M.pure (!k)) fun k => if k = true then M.pure true else (M.bind (M.bind (M.bind (M.bind (M.map O.erase (M.bind (M.bind (M.rd 2) fun x => M.bind (M.bind (M.rd 6) fun x => M.bind (M.pure []) fun xs => M.pure (x :: xs)) fun xs => M.pure (x :: xs)) fun l => if l.length + ([] : List D).length = 2 then M.call WT.G_law_web_of (l ++ []) else M.fail)) fun x => M.bind (M.pure []) fun xs => M.pure (x :: xs)) fun l => M.lift (bLenX l)) fun x => M.bind (M.pure (.int 1)) fun y => M.lift ((dNe x y).bind asB)) fun k => if k = true then M.pure true else (M.bind (M.map O.erase (M.bind (M.bind (M.rd 1) fun x => M.bind (M.bind (M.rd 6) fun x => M.bind (M.pure []) fun xs => M.pure (x :: xs)) fun xs => M.pure (x :: xs)) fun l => if l.length + ([] : List D).length = 2 then M.call WT.G_number_of (l ++ []) else M.fail)) fun x => M.bind (M.rd 4) fun y => M.lift ((dEq x y).bind asB))))
    (Sf.of (M.map O.sh (M.pure .none)) Sf.rt)
    Sf.nx)
    (Sf.seq (Sf.ite (M.bind (M.bind (M.bind (M.map O.erase (M.bind (M.bind (M.rd 1) fun x => M.bind (M.bind (M.rd 2) fun x => M.bind (M.bind (M.rd 6) fun x => M.bind (M.pure []) fun xs => M.pure (x :: xs)) fun xs => M.pure (x :: xs)) fun xs => M.pure (x :: xs)) fun l => if l.length + ([] : List D).length = 3 then M.call WT.G_rows_tied (l ++ []) else M.fail)) fun d => M.lift (asB d)) fun k => M.pure (!k)) fun k => if k = true then M.pure true else (M.bind (M.bind (M.map O.erase (M.bind (M.bind (M.rd 1) fun x => M.bind (M.bind (M.rd 6) fun x => M.bind (M.bind (M.rd 2) fun x => M.bind (M.pure []) fun xs => M.pure (x :: xs)) fun xs => M.pure (x :: xs)) fun xs => M.pure (x :: xs)) fun l => if l.length + ([] : List D).length = 3 then M.call WT.G_rows_tied (l ++ []) else M.fail)) fun d => M.lift (asB d)) fun k => M.pure (!k)))
    (Sf.of (M.map O.sh (M.pure .none)) Sf.rt)
    Sf.nx)
    (Sf.ite (M.bind (M.rd 2) fun x => M.bind (M.map O.erase (M.bind (M.bind (M.rd 1) fun x => M.bind (M.bind (M.rd 6) fun x => M.bind (M.pure []) fun xs => M.pure (x :: xs)) fun xs => M.pure (x :: xs)) fun l => if l.length + ([] : List D).length = 2 then M.call WT.G_rows_beside (l ++ []) else M.fail)) fun y => M.lift ((dNotInX x y).bind asB))
    (Sf.of (M.map O.sh (M.pure .none)) Sf.rt)
    Sf.nx))))
noncomputable def den_law_row_right_b2 : SF :=
  (Sf.ite (M.bind (M.bind (M.rd 6) fun x => M.bind (M.rd 7) fun y => M.lift ((dLt x y).bind asB)) fun k => M.pure (!k))
    (Sf.of (M.map O.sh (M.pure .none)) Sf.rt)
    Sf.nx)
noncomputable def den_law_row_right : SF :=
  (Sf.seq (Sf.of (M.map O.sh (M.map O.erase (M.bind (M.bind (M.rd 1) fun x => M.bind (M.bind (M.rd 2) fun x => M.bind (M.pure []) fun xs => M.pure (x :: xs)) fun xs => M.pure (x :: xs)) fun l => if l.length + ([] : List D).length = 2 then M.call WT.G_rows_beside (l ++ []) else M.fail))) (Sf.putO 3))
    (Sf.seq (Sf.ite (M.bind (M.bind (M.bind (M.bind (M.rd 3) fun x => M.bind (M.pure []) fun xs => M.pure (x :: xs)) fun l => M.lift (bLenX l)) fun x => M.bind (M.map O.erase (M.bind (M.bind (M.rd 1) fun x => M.bind (M.bind (M.rd 2) fun x => M.bind (M.pure []) fun xs => M.pure (x :: xs)) fun xs => M.pure (x :: xs)) fun l => if l.length + ([] : List D).length = 2 then M.call WT.G_law_own (l ++ []) else M.fail)) fun y => M.lift ((dNe x y).bind asB)) fun k => if k = true then M.pure true else (M.bind (M.map O.erase (M.bind (M.bind (M.rd 1) fun x => M.bind (M.bind (M.rd 2) fun x => M.bind (M.bind (M.rd 2) fun x => M.bind (M.pure []) fun xs => M.pure (x :: xs)) fun xs => M.pure (x :: xs)) fun xs => M.pure (x :: xs)) fun l => if l.length + ([] : List D).length = 3 then M.call WT.G_rows_tied (l ++ []) else M.fail)) fun d => M.lift (asB d)))
    (Sf.of (M.map O.sh (M.pure .none)) Sf.rt)
    Sf.nx)
    (Sf.seq (Sf.of (M.map O.sh (M.map O.erase (M.bind (M.bind (M.rd 1) fun x => M.bind (M.bind (M.rd 2) fun x => M.bind (M.pure []) fun xs => M.pure (x :: xs)) fun xs => M.pure (x :: xs)) fun l => if l.length + ([] : List D).length = 2 then M.call WT.G_number_of (l ++ []) else M.fail))) (Sf.putO 4))
    (Sf.seq (Sf.ite (M.bind (M.map O.erase (M.bind (M.bind (M.rd 1) fun x => M.bind (M.bind (M.rd 4) fun x => M.bind (M.pure []) fun xs => M.pure (x :: xs)) fun xs => M.pure (x :: xs)) fun l => if l.length + ([] : List D).length = 2 then M.call WT.G_row_of (l ++ []) else M.fail)) fun x => M.bind (M.rd 2) fun y => M.lift ((dNe x y).bind asB))
    (Sf.of (M.map O.sh (M.pure .none)) Sf.rt)
    Sf.nx)
    (Sf.seq (Sf.of (M.bind (M.bind (M.bind (M.pure (.int 2)) fun x => M.bind (M.bind (M.bind (M.bind (M.rd 3) fun x => M.bind (M.bind (M.pure []) fun l => M.lift (mkDL l)) fun y => M.lift (dNe x y)) fun x => M.bind (M.pure []) fun xs => M.pure (x :: xs)) fun l => M.lift (bInt l)) fun y => M.lift (dMul x y)) fun x => M.bind (M.pure []) fun xs => M.pure (x :: xs)) fun l => M.lift (range1D l)) (forS (gPut 5)
    den_law_row_right_b1))
    (Sf.seq (Sf.of (M.bind (M.bind (M.rd 3) fun x => M.bind (M.bind (M.map O.erase (M.bind (M.rd 3) fun x => M.bind (M.bind (M.pure (.int 1)) fun d => M.lift (asPart d)) fun l => M.bind (M.pure none) fun u => M.lift (oSl x l u))) fun x => M.bind (M.pure []) fun xs => M.pure (x :: xs)) fun xs => M.pure (x :: xs)) fun l => M.lift (zipD l)) (forS (gTupD 2 (gConsD (gPut 6) (gConsD (gPut 7) gNilD)))
    den_law_row_right_b2))
    (Sf.of (M.mv 3) Sf.rt)))))))
noncomputable def G_law_row_right : O → List D → Option (O × O) := runM 8 den_law_row_right
noncomputable def den_law_square : SF :=
  (Sf.seq (Sf.of (M.map O.sh (M.map O.erase (M.bind (M.bind (M.rd 1) fun x => M.bind (M.bind (M.rd 2) fun x => M.bind (M.pure []) fun xs => M.pure (x :: xs)) fun xs => M.pure (x :: xs)) fun l => if l.length + ([] : List D).length = 2 then M.call WT.G_law_web_of (l ++ []) else M.fail))) (Sf.putO 4))
    (Sf.seq (Sf.of (M.map O.sh (M.map O.erase (M.bind (M.bind (M.rd 2) fun x => M.bind (M.bind (M.rd 3) fun x => M.bind (M.pure []) fun xs => M.pure (x :: xs)) fun xs => M.pure (x :: xs)) fun l => if l.length + ([] : List D).length = 2 then M.call WT.G_law_web_of (l ++ []) else M.fail))) (Sf.putO 5))
    (Sf.seq (Sf.ite (M.bind (M.rd 4) fun x => M.bind (M.rd 5) fun y => M.lift ((dEq x y).bind asB))
    (Sf.of (M.map O.sh (M.pure (.bool true))) Sf.rt)
    Sf.nx)
    (Sf.seq (Sf.of (M.bind (M.bind (M.rd 1) fun x => M.bind (M.pure []) fun xs => M.pure (x :: xs)) fun l => M.lift (oList l)) (Sf.putO 6))
    (Sf.seq (Sf.of (M.map O.sh (M.bind (M.rd 3) fun x => M.bind (M.bind (M.rd 5) fun x => M.bind (M.pure (.int 0)) fun y => M.lift (dIx x y)) fun y => M.lift (dIx x y))) fun v => Sf.has 6 (Sf.of (M.noex (M.bind (M.rd 5) fun x => M.bind (M.pure (.int 0)) fun y => M.lift (dIx x y))) fun k => Sf.setIx 6 k v))
    (Sf.of (M.map O.sh (M.pureS (M.bind (M.map O.erase (M.bind (M.bind (M.rd 0) fun x => M.bind (M.bind (M.rd 1) fun x => M.bind (M.bind (M.rd 6) fun x => M.bind (M.pure []) fun xs => M.pure (x :: xs)) fun xs => M.pure (x :: xs)) fun xs => M.pure (x :: xs)) fun l => if l.length + ([] : List D).length = 3 then M.call WT.G_rows_tied (l ++ []) else M.fail)) fun d => M.bind (M.lift (asB d)) fun k => if k = true then (M.bind (M.map O.erase (M.bind (M.bind (M.rd 0) fun x => M.bind (M.bind (M.rd 6) fun x => M.bind (M.bind (M.rd 3) fun x => M.bind (M.pure []) fun xs => M.pure (x :: xs)) fun xs => M.pure (x :: xs)) fun xs => M.pure (x :: xs)) fun l => if l.length + ([] : List D).length = 3 then M.call WT.G_rows_tied (l ++ []) else M.fail)) fun d => M.bind (M.lift (asB d)) fun k => if k = true then (M.bind (M.map O.erase (M.bind (M.bind (M.rd 0) fun x => M.bind (M.bind (M.rd 1) fun x => M.bind (M.bind (M.rd 3) fun x => M.bind (M.pure []) fun xs => M.pure (x :: xs)) fun xs => M.pure (x :: xs)) fun xs => M.pure (x :: xs)) fun l => if l.length + ([] : List D).length = 3 then M.call WT.G_rows_tied (l ++ []) else M.fail)) fun d => M.lift (dNot d)) else M.pure (.bool false)) else M.pure (.bool false)))) Sf.rt))))))
noncomputable def G_law_square : List D → Option (Out O) := runF 7 den_law_square
noncomputable def den_law_k15_e1 : M O :=
  (M.has 1 (M.bind (M.bind (M.bind (M.bind (M.bind (M.pure (.int 2)) fun x => M.bind (M.bind (M.pure (.int 3)) fun x => M.bind (M.bind (M.pure (.int 6)) fun x => M.bind (M.bind (M.pure (.int 10)) fun x => M.bind (M.pure []) fun xs => M.pure (x :: xs)) fun xs => M.pure (x :: xs)) fun xs => M.pure (x :: xs)) fun xs => M.pure (x :: xs)) fun l => M.lift (mkDL l)) fun x => M.bind (M.map O.erase (M.has 1 (M.bind (M.bind (M.pure (.int 4)) fun x => M.bind (M.pure []) fun xs => M.pure (x :: xs)) fun l => if l.length + 1 = 2 then M.callM 1 WT.G_law_take l else M.fail))) fun y => M.lift (dIx x y)) fun x => M.bind (M.bind (M.pure (.int 4)) fun x => M.bind (M.pure []) fun xs => M.pure (x :: xs)) fun xs => M.pure (x :: xs)) fun l => if l.length + 1 = 3 then M.callM 1 WT.G_law_loose l else M.fail))
noncomputable def den_law_k15_e2 : M O :=
  (M.has 1 (M.bind (M.bind (M.bind (M.rd 9) fun x => M.bind (M.pure (.int 0)) fun y => M.lift (dIx x y)) fun x => M.bind (M.pure []) fun xs => M.pure (x :: xs)) fun l => if l.length + 1 = 2 then M.callM 1 WT.G_law_take l else M.fail))
noncomputable def den_law_k15_e3 : M O :=
  (M.has 1 (M.bind (M.bind (M.bind (M.rd 9) fun x => M.bind (M.pure (.int 0)) fun y => M.lift (dIx x y)) fun x => M.bind (M.pure []) fun xs => M.pure (x :: xs)) fun l => if l.length + 1 = 2 then M.callM 1 WT.G_law_take l else M.fail))
noncomputable def den_law_k15_b4 : SF :=
  (Sf.seq (Sf.of (M.bind (M.bind (M.rd 0) fun x => M.bind (M.bind (M.rd 5) fun x => M.bind (M.pure []) fun xs => M.pure (x :: xs)) fun xs => M.pure (x :: xs)) fun l => if l.length + ([] : List D).length = 2 then M.call WT.G_law_pool (l ++ []) else M.fail) (Sf.putO 1))
    (Sf.seq (Sf.of (M.map O.sh (M.map O.erase (M.has 1 (M.bind (M.bind (M.rd 2) fun x => M.bind (M.bind (M.rd 3) fun x => M.bind (M.pure []) fun xs => M.pure (x :: xs)) fun xs => M.pure (x :: xs)) fun l => if l.length + 1 = 3 then M.callM 1 WT.G_law_row_right l else M.fail)))) (Sf.putO 6))
    (Sf.seq (Sf.ite (M.bind (M.rd 6) fun x => M.bind (M.pure .none) fun y => M.lift ((dIs x y).bind asB))
    (Sf.of (M.map O.sh (M.pure (.bool false))) Sf.rt)
    Sf.nx)
    (Sf.ite (M.bind (M.bind (M.rd 6) fun x => M.bind (M.bind (M.pure []) fun l => M.lift (mkDL l)) fun y => M.lift ((dEq x y).bind asB)) fun k => if k = true then M.pure true else (M.bind (M.map O.erase (M.has 1 (M.bind (M.bind (M.pure (.int 8)) fun x => M.bind (M.pure []) fun xs => M.pure (x :: xs)) fun l => if l.length + 1 = 2 then M.callM 1 WT.G_law_take l else M.fail))) fun x => M.bind (M.pure (.int 0)) fun y => M.lift ((dEq x y).bind asB)))
    (Sf.seq (Sf.of (M.map O.sh (M.pure .none)) (Sf.putO 4))
    (Sf.of (compM [9] (M.bind (M.rd 2) fun d => M.lift (asSeq d)) (gPut 9) (M.pure true) den_law_k15_e3) (fun o => Sf.putO 3 (.sh o.erase))))
    (Sf.seq (Sf.of (M.map O.sh (M.bind (M.rd 6) fun x => M.bind (M.map O.erase (M.has 1 (M.bind (M.bind (M.bind (M.bind (M.rd 6) fun x => M.bind (M.pure []) fun xs => M.pure (x :: xs)) fun l => M.lift (bLenX l)) fun x => M.bind (M.pure []) fun xs => M.pure (x :: xs)) fun l => if l.length + 1 = 2 then M.callM 1 WT.G_law_take l else M.fail))) fun y => M.lift (dIx x y))) (Sf.putO 7))
    (Sf.seq (Sf.ite (M.bind (M.bind (M.rd 4) fun x => M.bind (M.pure .none) fun y => M.lift ((dIsNot x y).bind asB)) fun k => if k = true then (M.bind (M.bind (M.map O.erase (M.bind (M.bind (M.rd 2) fun x => M.bind (M.bind (M.rd 4) fun x => M.bind (M.bind (M.rd 3) fun x => M.bind (M.bind (M.rd 7) fun x => M.bind (M.pure []) fun xs => M.pure (x :: xs)) fun xs => M.pure (x :: xs)) fun xs => M.pure (x :: xs)) fun xs => M.pure (x :: xs)) fun l => if l.length + ([] : List D).length = 4 then M.call WT.G_law_square (l ++ []) else M.fail)) fun d => M.lift (asB d)) fun k => M.pure (!k)) else M.pure false)
    (Sf.of (M.map O.sh (M.pure (.bool false))) Sf.rt)
    Sf.nx)
    (Sf.seq (Sf.of (M.map O.sh (M.rd 3)) (Sf.putO 4))
    (Sf.of (M.map O.sh (M.rd 7)) (Sf.putO 3)))))))))
noncomputable def den_law_k15 : SF :=
  (Sf.seq (Sf.of (M.bind (M.bind (M.rd 0) fun x => M.bind (M.bind (M.pure (.int 0)) fun x => M.bind (M.pure []) fun xs => M.pure (x :: xs)) fun xs => M.pure (x :: xs)) fun l => if l.length + ([] : List D).length = 2 then M.call WT.G_law_pool (l ++ []) else M.fail) (Sf.putO 1))
    (Sf.seq (Sf.of (compM [8] (M.bind (M.bind (M.bind (M.pure (.int 1)) fun x => M.bind (M.map O.erase (M.has 1 (M.bind (M.bind (M.pure (.int 6)) fun x => M.bind (M.pure []) fun xs => M.pure (x :: xs)) fun l => if l.length + 1 = 2 then M.callM 1 WT.G_law_take l else M.fail))) fun y => M.lift (dAdd x y)) fun x => M.bind (M.pure []) fun xs => M.pure (x :: xs)) fun l => M.lift (range1D l)) (gPut 8) (M.pure true) den_law_k15_e1) (fun o => Sf.putO 2 (.sh o.erase)))
    (Sf.seq (Sf.of (compM [9] (M.bind (M.rd 2) fun d => M.lift (asSeq d)) (gPut 9) (M.pure true) den_law_k15_e2) (fun o => Sf.putO 3 (.sh o.erase)))
    (Sf.seq (Sf.of (M.map O.sh (M.pure .none)) (Sf.putO 4))
    (Sf.seq (Sf.of (M.bind (M.bind (M.pure (.int 1)) fun x => M.bind (M.bind (M.bind (M.bind (M.pure (.int 4)) fun x => M.bind (M.bind (M.bind (M.bind (M.bind (M.bind (M.rd 0) fun x => M.bind (M.pure []) fun xs => M.pure (x :: xs)) fun l => M.lift (bLenX l)) fun x => M.bind (M.bind (M.pure (.int 63)) fun x => M.bind (M.pure []) fun xs => M.pure (x :: xs)) fun xs => M.pure (x :: xs)) fun l => M.lift (bMin l)) fun x => M.bind (M.pure []) fun xs => M.pure (x :: xs)) fun xs => M.pure (x :: xs)) fun l => M.lift (bMax l)) fun x => M.bind (M.pure []) fun xs => M.pure (x :: xs)) fun xs => M.pure (x :: xs)) fun l => M.lift (range2D l)) (forS (gPut 5)
    den_law_k15_b4))
    (Sf.of (M.map O.sh (M.pure (.bool true))) Sf.rt))))))
noncomputable def G_law_k15 : List D → Option (Out O) := runF 10 den_law_k15
noncomputable def den_law_order_e1 : M O :=
  (M.isL 1 (M.bind (M.pureS (M.bind (M.rd 2) fun x => M.bind (M.bind (M.bind (M.rd 1) fun x => M.bind (M.pure []) fun xs => M.pure (x :: xs)) fun l => M.lift (bLenX l)) fun y => M.lift (dMod x y))) fun d => M.bind (M.lift (asI d)) fun k => M.chL 1 (opPopAt k)))
noncomputable def den_law_order : SF :=
  (Sf.seq (Sf.of (M.bind (M.bind (M.bind (M.rd 0) fun x => M.bind (M.pure []) fun xs => M.pure (x :: xs)) fun l => M.lift (bLenX l)) fun d => M.lift (oRg1 d)) (Sf.putO 1))
    (Sf.of (compM [2] (M.bind (M.rd 0) fun d => M.lift (asSeq d)) (gPut 2) (M.pure true) den_law_order_e1) Sf.rt))
noncomputable def G_law_order : List D → Option (Out O) := runF 3 den_law_order
noncomputable def den_law_row_e1 : M O :=
  (M.has 0 (M.bind (M.bind (M.rd 2) fun x => M.bind (M.pure []) fun xs => M.pure (x :: xs)) fun l => if l.length + 1 = 2 then M.callM 0 WT.G_law_take l else M.fail))
noncomputable def den_law_row : SF :=
  (Sf.of (compM [2, 3] (M.bind (M.rd 1) fun d => M.lift (asSeq d)) (gTupD 2 (gConsD (gPut 2) (gConsD (gPut 3) gNilD))) (M.pure true) den_law_row_e1) Sf.rt)
noncomputable def G_law_row : O → List D → Option (O × O) := runM 4 den_law_row
noncomputable def den_law_some_webs_b1 : SF :=
  (Sf.seq (Sf.of (M.map O.sh (M.bind (M.bind (M.bind (M.pure (.int 1)) fun x => M.bind (M.bind (M.pure (.int 2)) fun x => M.bind (M.bind (M.pure (.int 3)) fun x => M.bind (M.bind (M.pure (.int 5)) fun x => M.bind (M.pure []) fun xs => M.pure (x :: xs)) fun xs => M.pure (x :: xs)) fun xs => M.pure (x :: xs)) fun xs => M.pure (x :: xs)) fun l => M.lift (mkDL l)) fun x => M.bind (M.map O.erase (M.has 0 (M.bind (M.bind (M.pure (.int 4)) fun x => M.bind (M.pure []) fun xs => M.pure (x :: xs)) fun l => if l.length + 1 = 2 then M.callM 0 WT.G_law_take l else M.fail))) fun y => M.lift (dIx x y))) (Sf.putO 3))
    (Sf.seq (Sf.ite (M.bind (M.rd 2) fun x => M.bind (M.pure (.int 0)) fun y => M.lift ((dEq x y).bind asB))
    (Sf.of (M.map O.sh (M.bind (M.bind (M.bind (M.rd 3) fun x => M.bind (M.bind (M.pure (.int 40)) fun x => M.bind (M.pure []) fun xs => M.pure (x :: xs)) fun xs => M.pure (x :: xs)) fun l => M.lift (mkDL l)) fun x => M.bind (M.map O.erase (M.has 0 (M.bind (M.bind (M.pure (.int 2)) fun x => M.bind (M.pure []) fun xs => M.pure (x :: xs)) fun l => if l.length + 1 = 2 then M.callM 0 WT.G_law_take l else M.fail))) fun y => M.lift (dIx x y))) (Sf.putO 3))
    Sf.nx)
    (Sf.of (M.isL 1 (M.bind (M.has 0 (M.bind (M.bind (M.rd 3) fun x => M.bind (M.bind (M.pure (.int 3)) fun x => M.bind (M.pure []) fun xs => M.pure (x :: xs)) fun xs => M.pure (x :: xs)) fun l => if l.length + 1 = 3 then M.callM 0 WT.G_law_loose l else M.fail)) fun y => M.chL 1 (opAppend y))) fun _ => Sf.nx)))
noncomputable def den_law_some_webs : SF :=
  (Sf.seq (Sf.of (M.bind (M.pure []) fun l => M.lift (mkL l)) (Sf.putO 1))
    (Sf.seq (Sf.of (M.bind (M.bind (M.map O.erase (M.has 0 (M.bind (M.bind (M.pure (.int 13)) fun x => M.bind (M.pure []) fun xs => M.pure (x :: xs)) fun l => if l.length + 1 = 2 then M.callM 0 WT.G_law_take l else M.fail))) fun x => M.bind (M.pure []) fun xs => M.pure (x :: xs)) fun l => M.lift (range1D l)) (forS (gPut 2)
    den_law_some_webs_b1))
    (Sf.of (M.mv 1) Sf.rt)))
noncomputable def G_law_some_webs : O → List D → Option (O × O) := runM 4 den_law_some_webs
noncomputable def den_law_web_e1 : M O :=
  (M.map O.sh (M.bind (M.rd 13) fun x => M.bind (M.pure (.int 1)) fun y => M.lift (dAdd x y)))
noncomputable def den_law_web_e2 : M O :=
  (M.map O.sh (M.bind (M.rd 5) fun x => M.bind (M.rd 13) fun y => M.lift (dSub x y)))
noncomputable def den_law_web_e3 : M O :=
  (M.map O.sh (M.bind (M.bind (M.bind (M.rd 13) fun x => M.bind (M.pure (.int 1)) fun y => M.lift (dAdd x y)) fun x => M.bind (M.bind (M.bind (M.rd 7) fun x => M.bind (M.bind (M.pure (.int 2)) fun x => M.bind (M.rd 13) fun y => M.lift (dAdd x y)) fun y => M.lift (dIx x y)) fun x => M.bind (M.pure []) fun xs => M.pure (x :: xs)) fun xs => M.pure (x :: xs)) fun l => M.lift (mkDT l)))
noncomputable def den_law_web_c4 : M Bool :=
  (M.bind (M.bind (M.bind (M.rd 4) fun d => M.lift (asB d)) fun k => M.pure (!k)) fun k => if k = true then M.pure true else (M.bind (M.bind (M.rd 7) fun x => M.bind (M.bind (M.bind (M.pure (.int 1)) fun d => M.lift (dNeg d)) fun x => M.bind (M.rd 13) fun y => M.lift (dSub x y)) fun y => M.lift (dIx x y)) fun x => M.bind (M.pure (.int 0)) fun y => M.lift ((dGt x y).bind asB)))
noncomputable def den_law_web_e5 : M O :=
  (M.map O.sh (M.bind (M.bind (M.bind (M.rd 14) fun x => M.bind (M.rd 5) fun y => M.lift (dDiv x y)) fun x => M.bind (M.bind (M.bind (M.rd 14) fun x => M.bind (M.rd 5) fun y => M.lift (dMod x y)) fun x => M.bind (M.pure []) fun xs => M.pure (x :: xs)) fun xs => M.pure (x :: xs)) fun l => M.lift (mkDT l)))
noncomputable def den_law_web_b6 : SF :=
  (Sf.ite (M.bind (M.rd 11) fun x => M.bind (M.rd 12) fun y => M.lift ((dNe x y).bind asB))
    (Sf.of (M.map O.sh (M.pure (.bool true))) fun v => Sf.has 10 (Sf.of (M.noex (M.bind (M.bind (M.bind (M.bind (M.bind (M.rd 8) fun x => M.bind (M.rd 11) fun y => M.lift (dIx x y)) fun x => M.bind (M.bind (M.bind (M.rd 8) fun x => M.bind (M.rd 12) fun y => M.lift (dIx x y)) fun x => M.bind (M.pure []) fun xs => M.pure (x :: xs)) fun xs => M.pure (x :: xs)) fun l => M.lift (bMin l)) fun x => M.bind (M.bind (M.bind (M.bind (M.bind (M.rd 8) fun x => M.bind (M.rd 11) fun y => M.lift (dIx x y)) fun x => M.bind (M.bind (M.bind (M.rd 8) fun x => M.bind (M.rd 12) fun y => M.lift (dIx x y)) fun x => M.bind (M.pure []) fun xs => M.pure (x :: xs)) fun xs => M.pure (x :: xs)) fun l => M.lift (bMax l)) fun x => M.bind (M.pure []) fun xs => M.pure (x :: xs)) fun xs => M.pure (x :: xs)) fun l => M.lift (mkDT l))) fun k => Sf.setIx 10 k v))
    Sf.nx)
noncomputable def den_law_web : SF :=
  (Sf.seq (Sf.of (M.map O.sh (M.bind (M.pure (.int 1)) fun x => M.bind (M.bind (M.map O.erase (M.bind (M.bind (M.rd 0) fun x => M.bind (M.bind (M.rd 1) fun x => M.bind (M.bind (M.bind (M.bind (M.rd 2) fun x => M.bind (M.pure []) fun xs => M.pure (x :: xs)) fun l => M.lift (mkDL l)) fun x => M.bind (M.pure []) fun xs => M.pure (x :: xs)) fun xs => M.pure (x :: xs)) fun xs => M.pure (x :: xs)) fun l => if l.length + ([] : List D).length = 3 then M.call WT.G_law_numbers (l ++ []) else M.fail)) fun x => M.bind (M.pure (.int 0)) fun y => M.lift (dIx x y)) fun y => M.lift (dAdd x y))) (Sf.putO 5))
    (Sf.seq (Sf.of (M.map O.sh (M.bind (M.bind (M.bind (M.bind (M.rd 2) fun x => M.bind (M.bind (M.bind (M.rd 3) fun x => M.bind (M.pure (.int 1)) fun y => M.lift (dAdd x y)) fun x => M.bind (M.pure []) fun xs => M.pure (x :: xs)) fun xs => M.pure (x :: xs)) fun l => M.lift (mkDL l)) fun x => M.bind (M.map O.erase (compM [13] (M.bind (M.bind (M.bind (M.rd 5) fun x => M.bind (M.pure (.int 1)) fun y => M.lift (dSub x y)) fun x => M.bind (M.pure []) fun xs => M.pure (x :: xs)) fun l => M.lift (range1D l)) (gPut 13) (M.pure true) den_law_web_e1)) fun y => M.lift (dAdd x y)) fun x => M.bind (M.map O.erase (compM [13] (M.bind (M.bind (M.rd 5) fun x => M.bind (M.pure []) fun xs => M.pure (x :: xs)) fun l => M.lift (range1D l)) (gPut 13) (M.pure true) den_law_web_e2)) fun y => M.lift (dAdd x y))) (Sf.putO 6))
    (Sf.seq (Sf.of (M.map O.sh (M.map O.erase (M.bind (M.bind (M.rd 0) fun x => M.bind (M.bind (M.rd 1) fun x => M.bind (M.bind (M.bind (M.bind (M.rd 6) fun x => M.bind (M.bind (M.bind (M.bind (M.bind (M.rd 5) fun x => M.bind (M.rd 5) fun y => M.lift (dMul x y)) fun x => M.bind (M.pure []) fun xs => M.pure (x :: xs)) fun l => M.lift (mkDL l)) fun x => M.bind (M.rd 3) fun y => M.lift (dMul x y)) fun y => M.lift (dAdd x y)) fun x => M.bind (M.bind (M.bind (M.bind (M.pure (.int 3)) fun x => M.bind (M.pure []) fun xs => M.pure (x :: xs)) fun l => M.lift (mkDL l)) fun x => M.bind (M.bind (M.rd 5) fun x => M.bind (M.pure (.int 1)) fun y => M.lift (dSub x y)) fun y => M.lift (dMul x y)) fun y => M.lift (dAdd x y)) fun x => M.bind (M.pure []) fun xs => M.pure (x :: xs)) fun xs => M.pure (x :: xs)) fun xs => M.pure (x :: xs)) fun l => if l.length + ([] : List D).length = 3 then M.call WT.G_law_numbers (l ++ []) else M.fail))) (Sf.putO 7))
    (Sf.seq (Sf.of (M.map O.sh (M.map O.erase (M.bind (M.bind (M.map O.erase (M.bind (M.rd 7) fun x => M.bind (M.bind (M.bind (M.rd 5) fun x => M.bind (M.pure (.int 1)) fun y => M.lift (dAdd x y)) fun d => M.lift (asPart d)) fun l => M.bind (M.bind (M.bind (M.bind (M.pure (.int 2)) fun x => M.bind (M.rd 5) fun y => M.lift (dMul x y)) fun x => M.bind (M.pure (.int 1)) fun y => M.lift (dAdd x y)) fun d => M.lift (asPart d)) fun u => M.lift (oSl x l u))) fun x => M.bind (M.pure []) fun xs => M.pure (x :: xs)) fun l => if l.length + ([] : List D).length = 1 then M.call WT.G_law_order (l ++ []) else M.fail))) (Sf.putO 8))
    (Sf.seq (Sf.of (compM [13] (M.bind (M.bind (M.bind (M.rd 5) fun x => M.bind (M.pure (.int 1)) fun y => M.lift (dSub x y)) fun x => M.bind (M.pure []) fun xs => M.pure (x :: xs)) fun l => M.lift (range1D l)) (gPut 13) den_law_web_c4 den_law_web_e3) (Sf.putO 9))
    (Sf.seq (Sf.of (M.isL 9 (M.bind (compM [14] (M.bind (M.map O.erase (M.bind (M.rd 7) fun x => M.bind (M.bind (M.bind (M.bind (M.pure (.int 2)) fun x => M.bind (M.rd 5) fun y => M.lift (dMul x y)) fun x => M.bind (M.pure (.int 1)) fun y => M.lift (dAdd x y)) fun d => M.lift (asPart d)) fun l => M.bind (M.bind (M.bind (M.bind (M.bind (M.pure (.int 2)) fun x => M.bind (M.rd 5) fun y => M.lift (dMul x y)) fun x => M.bind (M.pure (.int 1)) fun y => M.lift (dAdd x y)) fun x => M.bind (M.bind (M.rd 7) fun x => M.bind (M.pure (.int 1)) fun y => M.lift (dIx x y)) fun y => M.lift (dAdd x y)) fun d => M.lift (asPart d)) fun u => M.lift (oSl x l u))) fun d => M.lift (asSeq d)) (gPut 14) (M.pure true) den_law_web_e5) fun y => M.chL 9 (opExtend y))) fun _ => Sf.nx)
    (Sf.seq (Sf.of (M.pure (.dic [])) (Sf.putO 10))
    (Sf.seq (Sf.of (M.bind (M.rd 9) fun d => M.lift (asSeq d)) (forS (gTupD 2 (gConsD (gPut 11) (gConsD (gPut 12) gNilD)))
    den_law_web_b6))
    (Sf.of (M.bind (M.bind (M.map O.sh (M.rd 5)) fun x => M.bind (M.bind (M.bind (M.bind (M.rd 10) fun x => M.bind (M.pure []) fun xs => M.pure (x :: xs)) fun l => M.lift (oSorted l)) fun x => M.bind (M.pure []) fun xs => M.pure (x :: xs)) fun xs => M.pure (x :: xs)) fun l => M.lift (mkT l)) Sf.rt)))))))))
noncomputable def G_law_web : List D → Option (Out O) := runF 15 den_law_web
noncomputable def den_places_of : SF :=
  (Sf.seq (Sf.of (M.bind (M.bind (M.rd 0) fun x => M.bind (M.pure []) fun xs => M.pure (x :: xs)) fun l => if l.length + ([] : List D).length = 1 then M.call WT.G_look_at_webs (l ++ []) else M.fail) fun _ => Sf.nx)
    (Sf.of (M.bind (M.bind (M.rd 0) fun x => M.bind (M.pure []) fun xs => M.pure (x :: xs)) fun l => if l.length + ([] : List D).length = 1 then M.call WT.G_places_in (l ++ []) else M.fail) Sf.rt))
noncomputable def G_places_of : List D → Option (Out O) := runF 1 den_places_of
noncomputable def den_show_web : SF :=
  (Sf.seq (Sf.of (M.bind (M.bind (M.rd 0) fun x => M.bind (M.pure []) fun xs => M.pure (x :: xs)) fun l => if l.length + ([] : List D).length = 1 then M.call WT.G_look_at_web (l ++ []) else M.fail) fun _ => Sf.nx)
    (Sf.of (M.bind (M.bind (M.rd 0) fun x => M.bind (M.pure []) fun xs => M.pure (x :: xs)) fun l => if l.length + ([] : List D).length = 1 then M.call WT.G_written (l ++ []) else M.fail) Sf.rt))
noncomputable def G_show_web : List D → Option (Out O) := runF 1 den_show_web
noncomputable def den_show_webs : SF :=
  (Sf.seq (Sf.of (M.bind (M.bind (M.rd 0) fun x => M.bind (M.pure []) fun xs => M.pure (x :: xs)) fun l => if l.length + ([] : List D).length = 1 then M.call WT.G_look_at_webs (l ++ []) else M.fail) fun _ => Sf.nx)
    (Sf.of (M.bind (M.bind (M.rd 0) fun x => M.bind (M.pure []) fun xs => M.pure (x :: xs)) fun l => if l.length + ([] : List D).length = 1 then M.call WT.G_all_written (l ++ []) else M.fail) Sf.rt))
noncomputable def G_show_webs : List D → Option (Out O) := runF 1 den_show_webs
end WT
namespace WT
open PySem PySem.Spec PyProof.Rows L2 DS
open PySem.W.Datum (toD)
local macro_rules
  | `(tactic| simp_arith [$xs,*]) => `(tactic| (simp (disch := first | omega | assumption | decide | (simp only [List.length_cons, List.length_nil, List.length_map, List.length_append, List.length_range, List.length_reverse, List.length_replicate]; omega)) only [run_pure, run_bind, run_lift, run_liftN, run_map, run_rd, run_mv, run_isL, run_chL, run_call, run_pureS, run_pureT, run_noexM, hide_nil, hide_cons, hideO_none, hideO_sh, hideO_lst, hideO_tup, hideO_dic, run_hid, run_callM, run_hasM, erase_pO, t_appPO, run_cur, run_atL, run_chAt, t_atL, t_atOS, t_atOSD, t_setAt, erase_tO, t_rev, x_iadd, x_isub, x_isNN, x_isIN, x_isDN, x_isnNN, x_isnIN, x_isBT, x_isBF, x_isnBT, x_isnBF, t_oMulN, t_setIxO, t_setIxO0, t_reverse, t_clear, isB_b, isB_i, isI_i, isI_b, isB_n, isI_n, isL_l, isT_t, isS_s, Bool.or_false, Bool.false_or, Bool.or_true, Bool.true_or, Bool.and_true, Bool.true_and, Bool.and_false, Bool.false_and, t_list, x_kw11, bInt_b, wipeE_nil, wipeE_cons, backE_nil, backE_cons, er_nil, er_cons, run_of, run_seq, run_nx, run_bk, run_ct, run_rt, run_never, run_putO, run_puts, run_ite, run_has, run_setIx, run_noexS, run_gPut, run_gNil, run_gCons, run_gTup, run_ifF, run_ifM, ite_andD, ite_orD, ite_andM, ite_orM, x_addI, x_subI, x_neg, x_asB, x_asI, x_asPart, x_asS, x_asSeqL, x_asSeqT, x_enum, x_ltI, x_gtI, x_leI, x_geI, x_eqI, x_neI, x_minN, x_maxN, c_add, c_add1, c_1add, c_mul, c_2mul, c_emod, c_ediv, t_len, t_ix, t_fst, t_snd, t_seq, t_tup, t_isL, t_isT, t_isLT, t_lenT, t_slice, t_sum, t_zip, toD_nat, toD_int, toD_bool, toD_str, toD_none, toD_some, toD_mk, tO_def, erase_shT, erase_nil, kT_erase, t_extend, t_appN, t_appON, t_appP, t_popN, t_oRg, x_pow18, x_lenL, x_lenT, x_tup0, x_tup1, x_mkT', x_mkL', x_mkDL', x_mkDT', x_mod, x_div, x_mul', x_mul, t_range1, t_range2, t_range2L, x_ixI, x_ixIT, atI_N, x_notB, x_scalI, x_scalB, x_scalS, x_scalN, List.getElem?_cons_zero, List.getElem?_cons_succ, List.set_cons_zero, List.set_cons_succ, List.length_cons, List.length_nil, List.map_nil, List.length_map, List.length_append, List.length_range, List.reduceReplicate, Nat.reduceSub, List.nil_append, List.append_nil, List.getElem?_map, O.erase_sh, erase_map, t_add, em_nil, em_cons, ea_nil, ea_cons, O.erase_tup, Option.bind_some, Option.map_some, Option.bind_none, Option.map_none, Nat.reduceAdd, Int.reduceSub, Int.reduceNeg, Nat.reduceLT, Nat.reduceLeDiff, Nat.reduceEqDiff, Nat.zero_add, reduceIte, if_true, if_false, Bool.not_true, Bool.not_false, decide_true, decide_false, Bool.false_eq_true, Nat.zero_lt_succ, Nat.add_zero, $xs,*] <;> with_reducible rfl))
local macro_rules
  | `(tactic| simp_all_arith [$xs,*]) => `(tactic| repeat' (first | with_reducible refine okQ_ok ?_ | with_reducible refine bt_case ?_ | with_reducible refine bf_case ?_ | with_reducible refine thenQ_nx ?_ | with_reducible refine thenQ_rt ?_ | with_reducible refine turnQ_nx ?_ | with_reducible refine turnQ_rt ?_ | with_reducible refine turnQ_ct ?_ | with_reducible refine retQ_rt ?_ | with_reducible refine retQ_nx ?_ | with_reducible refine wp_seq ?_ | with_reducible refine wp_run (by simp_arith [$xs,*]) ?_ | with_reducible refine wp_of ?_ | with_reducible refine wp_ite ?_ | with_reducible refine wpM_run (by simp_arith [$xs,*]) ?_ | with_reducible refine wpM_ifTt ?_ | with_reducible refine wpM_ifFf ?_ | with_reducible refine wpM_pureT ?_ | with_reducible refine wpM_bind ?_ | with_reducible refine wpM_map ?_ | with_reducible refine wpM_isL (by simp only [tO_def, List.getElem?_cons_succ, List.getElem?_cons_zero] <;> with_reducible rfl) ?_ | with_reducible refine wpM_has (by simp only [List.getElem?_cons_succ, List.getElem?_cons_zero] <;> with_reducible rfl) ?_ | with_reducible refine wp_has (by simp only [List.getElem?_cons_succ, List.getElem?_cons_zero] <;> with_reducible rfl) ?_))
/-- each number within its size -/
def Fits : List Nat → List Nat → Prop
  | [], [] => True
  | f :: fs, m :: ms => f < m ∧ Fits fs ms
  | _, _ => False
theorem Fits.snoc : ∀ {fs ms : List Nat} {f m : Nat}, Fits fs ms → f < m → Fits (fs ++ [f]) (ms ++ [m])
  | [], [], _, _, _, h2 => ⟨h2, trivial⟩
  | _ :: fs, _ :: ms, _, _, h, h2 => ⟨h.1, Fits.snoc h.2 h2⟩
  | [], _ :: _, _, _, h, _ => h.elim
  | _ :: _, [], _, _, h, _ => h.elim
theorem Fits.length : ∀ {fs ms : List Nat}, Fits fs ms → fs.length = ms.length
  | [], [], _ => rfl
  | _ :: fs, _ :: ms, h => congrArg Nat.succ (Fits.length h.2)
  | [], _ :: _, h => h.elim
  | _ :: _, [], h => h.elim
theorem Fits.get : ∀ {fs ms : List Nat} {i m : Nat}, Fits fs ms → ms[i]? = some m → ∃ f, fs[i]? = some f ∧ f < m
  | [], [], _, _, _, e => by simp at e
  | f :: fs, _ :: ms, 0, _, h, e => by simp at e; subst e; exact ⟨f, rfl, h.1⟩
  | _ :: fs, _ :: ms, i + 1, _, h, e => by
    obtain ⟨f, h1, h2⟩ := Fits.get (i := i) h.2 (by simpa using e)
    exact ⟨f, by simpa using h1, h2⟩
  | [], _ :: _, _, _, h, _ => h.elim
  | _ :: _, [], _, _, h, _ => h.elim
theorem Fits.app : ∀ {fs ms ms' : List Nat}, Fits fs (ms ++ ms') → ∃ f1 f2, fs = f1 ++ f2 ∧ Fits f1 ms ∧ Fits f2 ms'
  | fs, [], _, h => ⟨[], fs, rfl, trivial, h⟩
  | [], _ :: _, _, h => h.elim
  | f :: fs, m :: ms, ms', h => by
    obtain ⟨f1, f2, e, h1, h2⟩ := Fits.app (ms := ms) h.2
    exact ⟨f :: f1, f2, by rw [e]; rfl, ⟨h.1, h1⟩, h2⟩
theorem Fits.one {fs : List Nat} {m : Nat} (h : Fits fs [m]) : ∃ f, fs = [f] ∧ f < m := by
  match fs, h with
  | [f], h => exact ⟨f, rfl, h.1⟩
theorem log2_small {m : Nat} (h : m < 1152921504606846976) : m.log2 < 9000 := by
  by_cases hz : m = 0
  · subst hz; decide
  · have h2 : m.log2 < 60 := (Nat.log2_lt hz).mpr h
    omega
theorem x_divB {i : Int} {m : Nat} (h : 0 < m) (h2 : m.log2 < 9000) : dDiv (.int i) (.int (m : Int)) = some (.int (i / m)) := if_pos ⟨by omega, .inr h2⟩
theorem dMul_lit {i j : Int} (h1 : -(2 ^ 64) < j) (h2 : j < 2 ^ 64) : dMul (.int i) (.int j) = some (.int (i * j)) := x_mul' h1 h2
theorem numbers_ok (c salt : Int) {sizes : List Nat} (hm : ∀ m ∈ sizes, 0 < m ∧ m.log2 < 9000) (hl : sizes.length ≤ 1000000) : ∃ found : List Nat, G_law_numbers [.int c, .int salt, toD sizes] = some (.ok (tO found)) ∧ Fits found sizes := by
  have key : ∃ r, G_law_numbers [.int c, .int salt, toD sizes] = some r ∧ ∃ found : List Nat, r = .ok (tO found) ∧ Fits found sizes := by
    refine runF_wp ?_
    unfold den_law_numbers env0
    simp_all_arith [x_maxI]
    refine wp_forE _ (List.range sizes.length) (fun rest Γ => ∃ (pre suf found : List Nat) (left : Int) (x y : Option O), rest = List.range' pre.length suf.length ∧ sizes = pre ++ suf ∧
      Γ = [sI c, sI salt, sD (toD sizes), sI (max c (-1 - c)), sI left, some (tO found), x, y] ∧ Fits found pre) rfl ⟨[], sizes, [], _, _, _, List.range_eq_range', rfl, rfl, trivial⟩ ?_ ?_
    · rintro k rest Γ ⟨pre, suf, found, left, x, y, e, es, rfl, hf⟩
      cases suf with
      | nil => cases e
      | cons m suf =>
        rw [List.length_cons, List.range'_succ] at e
        injection e with e1 e2
        subst e1
        have hm1 := hm m (by rw [es]; simp)
        have hlen : pre.length < 1000000 := by rw [es, List.length_append, List.length_cons] at hl; omega
        have hfl := hf.length
        have hix : sizes[pre.length]? = some m := by rw [es, List.getElem?_append_right (Nat.le_refl _), Nat.sub_self]; rfl
        have fin : ∀ (f : Nat) (left' : Int) (x' y' : Option O), f < m → ∃ (pre suf found' : List Nat) (left : Int) (x y : Option O), rest = List.range' pre.length suf.length ∧ sizes = pre ++ suf ∧
            [sI c, sI salt, sD (toD sizes), sI (max c (-1 - c)), sI left', some (tO (found ++ [f])), x', y'] = [sI c, sI salt, sD (toD sizes), sI (max c (-1 - c)), sI left, some (tO found'), x, y] ∧ Fits found' pre :=
          fun f left' x' y' h => ⟨pre ++ [m], suf, found ++ [f], left', x', y', by rw [List.length_append]; exact e2, by rw [es]; simp, rfl, hf.snoc h⟩
        refine ⟨_, by simp_arith [], ?_⟩
        unfold den_law_numbers_b1
        by_cases hc : (1000000000000000000 : Int) ≤ max c (-1 - c) ∧ 0 < left
        · have c1 : decide ((1000000000000000000 : Int) ≤ max c (-1 - c)) = true := decide_eq_true hc.1
          have c2 : decide (0 < left) = true := decide_eq_true hc.2
          obtain ⟨f, hf2⟩ : ∃ f : Nat, left % (m : Int) = f := ⟨_, (Int.toNat_of_nonneg (Int.emod_nonneg _ (by omega))).symm⟩
          have hfm : f < m := by have := Int.emod_lt_of_pos left (show (0 : Int) < m by omega); omega
          have d1 : dMod (.int left) (.int (m : Int)) = some (.int (f : Int)) := by rw [x_mod (by omega), hf2]
          have d2 := x_divB (i := left) hm1.1 hm1.2
          simp_all_arith [c1, c2, hix, d1, d2]
          exact fin f _ _ _ hfm
        · have cc : ∀ B C : SF, ∀ Q, wp C [sI c, sI salt, sD (toD sizes), sI (max c (-1 - c)), sI left, some (tO found), sI pre.length, y] Q →
              wp (Sf.ite (M.bind (M.bind (M.rd 3) fun x => M.bind (M.bind (M.pure (.int 10)) fun x => M.bind (M.pure (.int 18)) fun y => M.lift (dPow x y)) fun y => M.lift ((dGe x y).bind asB)) fun k => if k = true then (M.bind (M.rd 4) fun x => M.bind (M.pure (.int 0)) fun y => M.lift ((dGt x y).bind asB)) else M.pure false) B C) [sI c, sI salt, sD (toD sizes), sI (max c (-1 - c)), sI left, some (tO found), sI pre.length, y] Q := by
            intro B C Q h
            refine wp_ite ⟨.ok false, [sI c, sI salt, sD (toD sizes), sI (max c (-1 - c)), sI left, some (tO found), sI pre.length, y], ?_, fun q => by (cases q), fun _ => h⟩
            by_cases h1 : (1000000000000000000 : Int) ≤ max c (-1 - c)
            · have c1 : decide ((1000000000000000000 : Int) ≤ max c (-1 - c)) = true := decide_eq_true h1
              have c2 : decide (0 < left) = false := decide_eq_false fun q => hc ⟨h1, q⟩
              simp_arith [c1, c2]
            · have c1 : decide ((1000000000000000000 : Int) ≤ max c (-1 - c)) = false := decide_eq_false h1
              simp_arith [c1]
          refine cc _ _ _ ?_
          have u1 : dMul (.int 7919) (.int salt) = some (.int (7919 * salt)) := x_mul (by decide) (by decide)
          have u2 : dMul (.int 101) (.int pre.length) = some (.int (101 * pre.length)) := x_mul (by decide) (by decide)
          have u3 : dMul (.int (101 * pre.length)) (.int pre.length) = some (.int (101 * pre.length * pre.length)) := x_mul (by omega) (by omega)
          have u4 : ∀ i, dMul (.int i) (.int 48271) = some (.int (i * 48271)) := fun i => dMul_lit (by decide) (by decide)
          have m1 : ∀ i, dMod (.int i) (.int 2147483647) = some (.int (i % 2147483647)) := fun i => x_mod (by decide)
          have m2 : ∀ i, dMod (.int i) (.int 2147483629) = some (.int (i % 2147483629)) := fun i => x_mod (by decide)
          have d16 : ∀ i, dDiv (.int i) (.int 16) = some (.int (i / 16)) := fun i => x_div (by decide) (by decide)
          have sq : ∀ i : Int, dMul (.int (i % 2147483647)) (.int (i % 2147483647)) = some (.int (i % 2147483647 * (i % 2147483647))) := fun i => x_mul (by omega) (by omega)
          have hap2 : ∀ i : Int, opAppend (.sh (.int (i % (m : Int)))) (found.map shT) = some (.sh .none, (found ++ [(i % (m : Int)).toNat]).map shT) := fun i => by
            rw [← t_appN found _ (by omega), Int.toNat_of_nonneg (Int.emod_nonneg _ (by omega))]
          simp_all_arith [u1, u2, u3, u4, m1, m2, d16, sq, hix, hap2]
          refine fin _ _ _ _ ?_
          have hp : (0 : Int) < (m : Int) := by omega
          have := Int.emod_lt_of_pos (((max c (-1 - c) + 7919 * salt + 101 * (pre.length : Int) * (pre.length : Int) + (pre.length : Int)) % 2147483647 * 48271 % 2147483647 * ((max c (-1 - c) + 7919 * salt + 101 * (pre.length : Int) * (pre.length : Int) + (pre.length : Int)) % 2147483647 * 48271 % 2147483647) % 2147483629 * 48271 % 2147483647 / 16)) hp
          omega
    · rintro Γ ⟨pre, suf, found, left, x, y, e, es, rfl, hf⟩
      have : suf = [] := by
        cases suf with
        | nil => rfl
        | cons m suf => rw [List.length_cons, List.range'_succ] at e; cases e
      subst this
      rw [List.append_nil] at es; subst es
      simp_all_arith []
      exact ⟨found, rfl, hf⟩
  obtain ⟨r, e, found, rfl, hf⟩ := key
  exact ⟨found, e, hf⟩
/-- what the law's second kind of drawing goes on -/
def Pool (p : O) : Prop := ∃ g s : Int, p = tO [g, s] ∧ 0 ≤ g ∧ 0 ≤ s ∧ s < 2147483647
theorem take_ok {p : O} (hp : Pool p) {many : Nat} (h0 : 0 < many) (h1 : many.log2 < 9000) : ∃ (f : Nat) (p' : O), G_law_take p [.int (many : Int)] = some (.sh (.int (f : Int)), p') ∧ f < many ∧ Pool p' := by
  obtain ⟨g, s, rfl, hg, hs, hs2⟩ := hp
  have key : ∃ r o', G_law_take (tO [g, s]) [.int (many : Int)] = some (r, o') ∧ ∃ f : Nat, r = .sh (.int (f : Int)) ∧ f < many ∧ Pool o' := by
    refine runM_wp ?_
    unfold den_law_take envM
    have hm : (0 : Int) < (many : Int) := by omega
    have i0 : dIx (toD [g, s]) (.int 0) = some (.int g) := t_ix [g, s] 0
    have i1 : dIx (toD [g, s]) (.int 1) = some (.int s) := t_ix [g, s] 1
    have w0 : ∀ v : Int, setO (.lst ([g, s].map shT)) (.int 0) (.sh (.int v)) = some (.lst ([v, s].map shT)) := fun v => rfl
    have w1 : ∀ v : Int, setO (.lst ([g, s].map shT)) (.int 1) (.sh (.int v)) = some (.lst ([g, v].map shT)) := fun v => rfl
    by_cases hc : 0 < g
    · have c1 : decide (0 < g) = true := decide_eq_true hc
      have d1 := x_divB (i := g) h0 h1
      have h2 := Int.emod_nonneg g (show (many : Int) ≠ 0 by omega)
      have h3 := Int.emod_lt_of_pos g hm
      have h4 : 0 ≤ g / (many : Int) := Int.ediv_nonneg hg (by omega)
      simp_all_arith [i0, c1, d1, w0]
      refine retM_rt (o' := tO [g / (many : Int), s]) rfl ⟨(g % (many : Int)).toNat, ?_, by omega, _, _, rfl, h4, hs, hs2⟩
      rw [Int.toNat_of_nonneg h2]
    · have c1 : decide (0 < g) = false := decide_eq_false hc
      have u4 : ∀ i, dMul (.int i) (.int 48271) = some (.int (i * 48271)) := fun i => dMul_lit (by decide) (by decide)
      have m1 : ∀ i, dMod (.int i) (.int 2147483647) = some (.int (i % 2147483647)) := fun i => x_mod (by decide)
      have m2 : ∀ i, dMod (.int i) (.int 2147483629) = some (.int (i % 2147483629)) := fun i => x_mod (by decide)
      have d16 : ∀ i, dDiv (.int i) (.int 16) = some (.int (i / 16)) := fun i => x_div (by decide) (by decide)
      have hv1 := Int.emod_nonneg (s * 48271 + 11) (show (2147483647 : Int) ≠ 0 by decide)
      have hv2 := Int.emod_lt_of_pos (s * 48271 + 11) (show (0 : Int) < 2147483647 by decide)
      generalize hv : (s * 48271 + 11) % 2147483647 = v at *
      have sq : dMul (.int v) (.int v) = some (.int (v * v)) := x_mul (by omega) (by omega)
      have j1 : dIx (toD [g, v]) (.int 1) = some (.int v) := t_ix [g, v] 1
      have h2 := Int.emod_nonneg (v * v % 2147483629 / 16) (show (many : Int) ≠ 0 by omega)
      have h3 := Int.emod_lt_of_pos (v * v % 2147483629 / 16) hm
      simp_all_arith [i0, i1, c1, u4, m1, hv, w1, j1, sq, m2, d16]
      refine retM_rt (o' := tO [g, v]) rfl ⟨(v * v % 2147483629 / 16 % (many : Int)).toNat, ?_, by omega, _, _, rfl, hg, hv1, hv2⟩
      rw [Int.toNat_of_nonneg h2]
  obtain ⟨r, o', e, f, rfl, hf, hp⟩ := key
  exact ⟨f, o', e, hf, hp⟩
theorem pool_ok (ns : List Int) {k : Nat} (hk : k < 1000) : ∃ p, G_law_pool [toD ns, .int (k : Int)] = some (.ok p) ∧ Pool p := by
  have key : ∃ r, G_law_pool [toD ns, .int (k : Int)] = some r ∧ ∃ p, r = .ok p ∧ Pool p := by
    refine runF_wp ?_
    unfold den_law_pool env0
    have u1 : dMul (.int 7919) (.int (k : Int)) = some (.int (7919 * (k : Int))) := x_mul (by decide) (by decide)
    have u2 : dMul (.int (7919 * (k : Int))) (.int (k : Int)) = some (.int (7919 * (k : Int) * (k : Int))) := x_mul (by omega) (by omega)
    have u3 : dMul (.int 104729) (.int (k : Int)) = some (.int (104729 * (k : Int))) := x_mul (by decide) (by decide)
    have u4 : ∀ i, dMul (.int i) (.int 48271) = some (.int (i * 48271)) := fun i => dMul_lit (by decide) (by decide)
    have m1 : ∀ i, dMod (.int i) (.int 2147483647) = some (.int (i % 2147483647)) := fun i => x_mod (by decide)
    have m2 : ∀ i, dMod (.int i) (.int 2147483629) = some (.int (i % 2147483629)) := fun i => x_mod (by decide)
    have fin : ∀ g i : Int, 0 ≤ g → Pool (O.lst [.sh (.int g), .sh (.int (i % 2147483647))]) := fun g i hg =>
      ⟨g, i % 2147483647, rfl, hg, Int.emod_nonneg _ (by decide), Int.emod_lt_of_pos _ (by decide)⟩
    have tail : ∀ c : Int, ∃ p, Pool p ∧ ∀ Q : Fl → DS.Env → Prop, (∀ Γ, Q (.rt p) Γ) → True := fun c => ⟨_, fin 0 0 (by decide), fun _ _ => trivial⟩
    by_cases h : k < ns.length
    · have e1 : decide ((k : Int) < (ns.length : Int)) = true := decide_eq_true (by omega)
      have e2 : ns[k]? = some ns[k] := List.getElem?_eq_getElem h
      generalize ns[k] = c at e2
      by_cases hc : (1000000000000000000 : Int) ≤ c
      · have c1 : decide ((1000000000000000000 : Int) ≤ c) = true := decide_eq_true hc
        simp_all_arith [e1, e2, u1, u2, u3, u4, m1, m2, x_maxI, c1]
        exact ⟨_, rfl, fin c _ (by omega)⟩
      · have c1 : decide ((1000000000000000000 : Int) ≤ c) = false := decide_eq_false hc
        simp_all_arith [e1, e2, u1, u2, u3, u4, m1, m2, x_maxI, c1]
        exact ⟨_, rfl, fin 0 _ (by omega)⟩
    · have e1 : decide ((k : Int) < (ns.length : Int)) = false := decide_eq_false (by omega)
      have c1 : decide ((1000000000000000000 : Int) ≤ 0) = false := by decide
      simp_all_arith [e1, u1, u2, u3, u4, m1, m2, x_maxI, c1]
      exact ⟨_, rfl, fin 0 _ (by omega)⟩
  obtain ⟨r, e, p, rfl, hp⟩ := key
  exact ⟨p, e, hp⟩
theorem law_order_ok {ds : List Nat} (hl : ds.length ≤ 1000) : ∃ p : List Nat, G_law_order [toD ds] = some (.ok (tO p)) ∧ p.Perm (List.range ds.length) := by
  have key : ∃ r, G_law_order [toD ds] = some r ∧ ∃ p : List Nat, r = .ok (tO p) ∧ p.Perm (List.range ds.length) := by
    refine runF_wp ?_
    unfold den_law_order env0
    simp_all_arith []
    refine wpM_comp toD ds (fun rest acc Γ => ∃ (names p : List Nat), Γ = [sD (toD ds), some (tO names), none] ∧ acc = p.map shT ∧ (p ++ names).Perm (List.range ds.length) ∧ names.length = rest.length) (by simp_arith []) rfl ⟨List.range ds.length, [], rfl, rfl, by simp, by simp⟩ ?_ ?_
    · rintro x rest acc Γ ⟨names, p, rfl, rfl, hp, hn⟩
      have hlen : (p ++ names).length = ds.length := by rw [hp.length_eq, List.length_range]
      rw [List.length_append] at hlen
      rw [List.length_cons] at hn
      refine ⟨by rw [List.length_map]; omega, _, _, true, by simp_arith [], rfl, .inr ⟨rfl, ?_⟩⟩
      have hj : x % names.length < names.length := Nat.mod_lt _ (by omega)
      refine ⟨nO names[x % names.length], _, by simp_arith [den_law_order_e1, t_popN names _ _ (List.getElem?_eq_getElem hj)], names.eraseIdx (x % names.length), p ++ [names[x % names.length]], by simp_arith [], by rw [List.map_append]; rfl, ?_, ?_⟩
      · refine List.Perm.trans ?_ hp
        rw [List.append_assoc]
        exact List.Perm.append_left p (perm_eraseIdx names _ hj)
      · rw [List.length_eraseIdx, if_pos hj]; omega
    · rintro l Γ ⟨names, p, rfl, rfl, hp, hn⟩
      have : names = [] := List.length_eq_zero_iff.mp hn
      subst this
      rw [List.append_nil] at hp
      simp_all_arith []
      exact ⟨p, rfl, hp⟩
  obtain ⟨r, e, p, rfl, hp⟩ := key
  exact ⟨p, e, hp⟩
abbrev Tie := Nat × Nat
abbrev Web := Nat × List Tie
/-- what the program takes for a web -/
structure Good (w : Web) : Prop where
  lo : 1 ≤ w.1
  hi : w.1 ≤ 40
  few : w.2.length ≤ 120
  ok : ∀ t ∈ w.2, t.1 < t.2 ∧ t.2 < w.1
  srt : w.2.Pairwise fun s t => PySem.W.DatumOrd.lt s t = true
theorem is_whole_int (i : Int) : G_is_whole [.int i] = some (.ok (.sh (.bool true))) := by
  simp [G_is_whole, den_is_whole, run_F, env0, PyData.isInt, PyData.isBool, x_notB]
theorem is_within_int (x a b : Int) : G_is_within [.int x, .int a, .int b] = some (.ok (.sh (.bool (decide (a ≤ x ∧ x ≤ b))))) := by
  simp only [G_is_within, den_is_within, run_F, env0, chainM]
  by_cases h1 : a ≤ x <;> by_cases h2 : x ≤ b <;> simp [is_whole_int, h1, h2]
theorem is_tie_ii (n a b : Nat) (h1 : a < b) (h2 : b < n) : G_is_tie [.int n, .tuple [.int a, .int b]] = some (.ok (.sh (.bool true))) := by
  have e1 : ((0 : Int) ≤ (a : Int) ∧ (a : Int) ≤ (n : Int) - 1) := by omega
  have e2 : ((0 : Int) ≤ (b : Int) ∧ (b : Int) ≤ (n : Int) - 1) := by omega
  simp [G_is_tie, den_is_tie, run_F, env0, is_within_int, PyData.isTuple, e1, e2, h1]
theorem look_at_web_good {w : Web} (g : Good w) : G_look_at_web [toD w] = some (.ok (.sh .none)) := by
  have l1 := g.lo
  have l2 := g.hi
  have l3 := g.few
  refine runF_ok ?_
  unfold den_look_at_web env0
  have e1 : decide ((1 : Int) ≤ (w.1 : Int) ∧ (w.1 : Int) ≤ 40) = true := decide_eq_true (by omega)
  have e3 : decide ((120 : Int) < (w.2.length : Int)) = false := decide_eq_false (by omega)
  simp_all_arith [is_within_int, e1, e3, t_enum]
  refine wp_forE _ w.2.zipIdx (fun rest Γ => ∃ (k : Nat) (l : List Tie) (ahead : D) (x y : Option O), rest = l.zipIdx k ∧ Γ = [sD (toD w), sN w.1, sD (toD w.2), sD ahead, x, y] ∧
    (∀ t ∈ l, t.1 < t.2 ∧ t.2 < w.1) ∧ l.Pairwise (fun s t => PySem.W.DatumOrd.lt s t = true) ∧ ∀ t ∈ l, dLe (toD t) ahead = some (.bool false)) rfl ⟨0, w.2, _, _, _, rfl, rfl, g.ok, g.srt, fun t ht => ?_⟩ ?_ ?_
  · rw [show dLe (toD t) (.tuple [.int (-1), .int (-1)]) = dLe (toD ((t.1 : Int), (t.2 : Int))) (toD ((-1 : Int), (-1 : Int))) from rfl, t_le]
    have : PySem.W.DatumOrd.lt ((-1 : Int), (-1 : Int)) ((t.1 : Int), (t.2 : Int)) = true := by
      rw [lt_pair, if_neg (by show ¬ ((-1 : Int) = (t.1 : Int)); omega)]
      exact decide_eq_true (by show (-1 : Int) < (t.1 : Int); omega)
    rw [this]; rfl
  · rintro x rest Γ ⟨k, l, ahead, x1, x2, e, rfl, ok, sr, ah⟩
    cases l with
    | nil => cases e
    | cons t l =>
      cases e
      have h1 := ok t List.mem_cons_self
      have e1 : G_is_tie [.int (w.1 : Int), toD t] = some (.ok (.sh (.bool true))) := is_tie_ii w.1 t.1 t.2 h1.1 h1.2
      have e2 := ah t List.mem_cons_self
      refine ⟨_, by simp_arith [], ?_⟩
      unfold den_look_at_web_b1
      simp_all_arith [e1, e2]
      have sr' := List.pairwise_cons.mp sr
      refine ⟨k + 1, l, toD t, _, _, rfl, rfl, fun u hu => ok u (List.mem_cons_of_mem _ hu), sr'.2, fun u hu => ?_⟩
      rw [t_le, sr'.1 u hu]; rfl
  · rintro Γ ⟨k, l, ahead, x1, x2, e, rfl, ok, sr, ah⟩
    simp_all_arith []
    rfl
/-- the pairs' ties, as the law's web makers put them in -/
def tieBy (order : List Nat) (p : Nat × Nat) : Tie := (min (order.getD p.1 0) (order.getD p.2 0), max (order.getD p.1 0) (order.getD p.2 0))
/-- what a law's web maker tells: sorted ties of pairs -/
structure Drawn (n : Nat) (order : List Nat) (pairs : List (Nat × Nat)) (ts : List Tie) : Prop where
  perm : order.Perm (List.range n)
  within : ∀ p ∈ pairs, p.1 < n ∧ p.2 < n
  mem : ∀ t, t ∈ ts ↔ ∃ p ∈ pairs, p.1 ≠ p.2 ∧ t = tieBy order p
  srt : ts.Pairwise fun s t => PySem.W.DatumOrd.lt s t = true
  few : ts.length ≤ pairs.length
theorem law_web_ok (c salt : Int) {most more : Nat} (loose : Bool) (h1 : 1 ≤ most) (h2 : most ≤ 1000) (h3 : more ≤ 1000) : ∃ (n : Nat) (order : List Nat) (pairs : List (Nat × Nat)) (ts : List Tie), G_law_web [.int c, .int salt, .int (most : Int), .int (more : Int), .bool loose] = some (.ok (.tup [.sh (.int (n : Int)), tO ts])) ∧
    1 ≤ n ∧ n ≤ most ∧ Drawn n order pairs ts ∧ pairs.length + 1 ≤ n + more ∧ (loose = false → ∀ k, k + 1 < n → ∃ d, d ≤ k ∧ (k + 1, d) ∈ pairs) := by
  have key : ∃ r, G_law_web [.int c, .int salt, .int (most : Int), .int (more : Int), .bool loose] = some r ∧ ∃ (n : Nat) (order : List Nat) (pairs : List (Nat × Nat)) (ts : List Tie), r = .ok (.tup [.sh (.int (n : Int)), tO ts]) ∧
    1 ≤ n ∧ n ≤ most ∧ Drawn n order pairs ts ∧ pairs.length + 1 ≤ n + more ∧ (loose = false → ∀ k, k + 1 < n → ∃ d, d ≤ k ∧ (k + 1, d) ∈ pairs) := by
    refine runF_wp ?_
    unfold den_law_web env0
    obtain ⟨f1, e1, hf1⟩ := numbers_ok c salt (sizes := [most]) (fun m hm => by
      rw [List.mem_singleton] at hm; subst hm; exact ⟨by omega, log2_small (by omega)⟩) (by simp)
    obtain ⟨q, rfl, hq⟩ := hf1.one
    have e1 : G_law_numbers [.int c, .int salt, .list [.int (most : Int)]] = some (.ok (tO [q])) := e1
    have i1 : dIx (toD [q]) (.int 0) = some (.int (q : Int)) := t_ix [q] 0
    have c0 : decide ((0 : Int) < (1 + q : Nat)) = true := decide_eq_true (by omega)
    have s1 : dSub (.int ((1 + q : Nat) : Int)) (.int 1) = some (.int (q : Int)) := by rw [x_subI]; congr 2; omega
    simp_all_arith [e1, i1, s1]
    refine wpM_compT toD (List.range q) (fun k => k + 1) (by simp_arith [s1]) rfl (by rw [List.length_range]; omega) (fun k hk => ⟨_, _, by simp_arith [], by simp_arith [den_law_web_e1], by simp_arith []⟩) ?_
    have a1 : dAdd (.list [.int (most : Int), .int ((more + 1 : Nat) : Int)]) (toD ((List.range q).map fun k => k + 1)) = some (toD ([most, more + 1] ++ (List.range q).map fun k => k + 1)) := t_add [most, more + 1] _ (by simp; omega)
    simp_all_arith [a1]
    refine wpM_compT toD (List.range (1 + q)) (fun k => 1 + q - k) (by simp_arith []) rfl (by rw [List.length_range]; omega) (fun k hk => ?_) ?_
    · have hk := List.mem_range.mp hk
      have e2 : dSub (.int ((1 + q : Nat) : Int)) (.int (k : Int)) = some (.int ((1 + q - k : Nat) : Int)) := by rw [x_subI]; congr 2; omega
      exact ⟨_, _, by simp_arith [], by simp_arith [den_law_web_e2, e2], by simp_arith []⟩
    have m1 : dMul (.list [.int (((1 + q) * (1 + q) : Nat) : Int)]) (.int (more : Int)) = some (toD (List.replicate more ((1 + q) * (1 + q)))) := by
      rw [x_mulL1 (by omega) (by omega), toD_list, List.map_replicate]; rfl
    have m2 : dMul (.list [.int 3]) (.int (q : Int)) = some (toD (List.replicate q 3)) := by
      rw [x_mulL1 (by omega) (by omega), toD_list, List.map_replicate]; rfl
    have hsz : ∀ m ∈ ([most, more + 1] ++ (List.range q).map fun k => k + 1) ++ (List.range (1 + q)).map (fun k => 1 + q - k) ++ List.replicate more ((1 + q) * (1 + q)) ++ List.replicate q 3, 0 < m ∧ m.log2 < 9000 := by
      intro m hm
      have : 0 < m ∧ m < 1152921504606846976 := by
        simp only [List.mem_append, List.mem_cons, List.mem_map, List.mem_range, List.mem_replicate, List.not_mem_nil, or_false] at hm
        have hqq : (1 + q) * (1 + q) ≤ 1000 * 1000 := Nat.mul_le_mul (by omega) (by omega)
        have hqp : 0 < (1 + q) * (1 + q) := Nat.mul_pos (by omega) (by omega)
        rcases hm with ((((h | h) | ⟨k, h, h'⟩) | ⟨k, h, h'⟩) | ⟨_, h⟩) | ⟨_, h⟩ <;> omega
      exact ⟨this.1, log2_small this.2⟩
    obtain ⟨dg, e3, hd⟩ := numbers_ok c salt hsz (by simp; omega)
    have hdl : dg.length = 3 + 3 * q + more := by rw [hd.length]; simp; omega
    have g1 : ∃ x, dg[1]? = some x ∧ x < more + 1 := hd.get (by simp)
    obtain ⟨x, gx, hx⟩ := g1
    have g2 : ∀ k, k < q → ∃ d, dg[2 + k]? = some d ∧ d < k + 1 := fun k hk => hd.get (by
      rw [List.getElem?_append_left (by simp; omega), List.getElem?_append_left (by simp; omega), List.getElem?_append_left (by simp; omega), List.getElem?_append_right (by simp)]
      simp [show 2 + k - 2 = k by omega, hk])
    have g3 : ∀ d ∈ (dg.take (2 * (1 + q) + 1 + x)).drop (2 * (1 + q) + 1), d < (1 + q) * (1 + q) := fun d hdm => by
      obtain ⟨i, hi, e⟩ := List.getElem_of_mem hdm
      rw [List.getElem_drop, List.getElem_take] at e
      rw [List.length_drop, List.length_take] at hi
      have hi2 : i < x := by omega
      obtain ⟨f, h1, h2⟩ := hd.get (i := 2 * (1 + q) + 1 + i) (m := (1 + q) * (1 + q)) (by
        rw [List.getElem?_append_left (by simp; omega), List.getElem?_append_right (by simp; omega)]
        rw [List.getElem?_replicate, if_pos (by simp; omega)])
      rw [List.getElem?_eq_getElem (by omega)] at h1
      injection h1 with h1
      rw [← e, h1]; exact h2
    obtain ⟨p, e4, hp⟩ := law_order_ok (ds := (dg.take (2 * (1 + q) + 1)).drop (1 + q + 1)) (by rw [List.length_drop, List.length_take]; omega)
    have hlo : ((dg.take (2 * (1 + q) + 1)).drop (1 + q + 1)).length = 1 + q := by rw [List.length_drop, List.length_take]; omega
    rw [hlo] at hp
    have hpl : p.length = 1 + q := by rw [hp.length_eq, List.length_range]
    have i2 : dIx (toD dg) (.int 1) = some (.int (x : Int)) := (t_ix dg 1).trans (by rw [gx]; rfl)
    simp_all_arith [e3, m1, m2, s1, cut_nat, e4]
    have pe : ∀ k, k < q → dIx (toD dg) (.int (-1 - (k : Int))) = some (.int ((dg.getD (dg.length - 1 - k) 0 : Nat) : Int)) := fun k hk => by
      rw [t_ixI, atI_neg (by omega), get?_getD (d := 0) (by omega)]; rfl
    have pf : ∀ k, k < q → dIx (toD dg) (.int ((2 + k : Nat) : Int)) = some (.int ((dg.getD (2 + k) 0 : Nat) : Int)) := fun k hk => by
      rw [t_ix, get?_getD (d := 0) (by omega)]; rfl
    have c2a : ∀ k : Nat, (2 : Int) + (k : Int) = ((2 + k : Nat) : Int) := fun k => by omega
    refine wpM_compTF toD (List.range q) (fun k => !loose || decide (0 < dg.getD (dg.length - 1 - k) 0)) (fun k => (k + 1, dg.getD (2 + k) 0)) (by simp_arith [s1]) rfl (by rw [List.length_range]; omega) (fun k hk => ?_) ?_
    · have hk := List.mem_range.mp hk
      have e5 : ∀ v : Nat, decide ((0 : Int) < (v : Int)) = decide (0 < v) := fun v => decide_eq_decide.mpr (by omega)
      cases loose with
      | false => exact ⟨_, _, by simp_arith [], by simp_arith [den_law_web_c4, Bool.true_or], fun q => (by cases q), fun _ => ⟨_, by simp_arith [den_law_web_e3, c2a, pf k hk], by simp_arith []⟩⟩
      | true => exact ⟨_, _, by simp_arith [], by simp_arith [den_law_web_c4, pe k hk, e5, Bool.false_or], fun q => (by simp_arith []), fun _ => ⟨_, by simp_arith [den_law_web_e3, c2a, pf k hk], by simp_arith []⟩⟩
    have hn : (0 : Int) < ((1 + q : Nat) : Int) := by omega
    have c2b : (2 * (1 + q) + 1 : Nat) + x = 2 * (1 + q) + 1 + x := rfl
    simp_all_arith [i2, cut_nat]
    refine wpM_compT toD ((dg.take (2 * (1 + q) + 1 + x)).drop (2 * (1 + q) + 1)) (fun d => (d / (1 + q), d % (1 + q))) (by simp_arith [i2, cut_nat]) rfl (by rw [List.length_drop, List.length_take]; omega) (fun d hd => ⟨_, _, by simp_arith [], by simp_arith [den_law_web_e5], by simp_arith []⟩) ?_
    have hl1 : (((List.range q).filter fun k => !loose || decide (0 < dg.getD (dg.length - 1 - k) 0)).map fun k => (k + 1, dg.getD (2 + k) 0)).length ≤ q := by
      rw [List.length_map]
      exact Nat.le_trans (List.length_filter_le _ _) (by rw [List.length_range]; exact Nat.le_refl _)
    have hl2 : (((dg.take (2 * (1 + q) + 1 + x)).drop (2 * (1 + q) + 1)).map fun d => (d / (1 + q), d % (1 + q))).length ≤ x := by
      rw [List.length_map, List.length_drop, List.length_take]; omega
    generalize hP : (((List.range q).filter fun k => !loose || decide (0 < dg.getD (dg.length - 1 - k) 0)).map fun k => (k + 1, dg.getD (2 + k) 0)) = P1 at *
    generalize hP2 : (((dg.take (2 * (1 + q) + 1 + x)).drop (2 * (1 + q) + 1)).map fun d => (d / (1 + q), d % (1 + q))) = P2 at *
    simp_all_arith [t_extend P1 P2 (by omega)]
    have hw : ∀ p ∈ P1 ++ P2, p.1 < 1 + q ∧ p.2 < 1 + q := by
      intro p hp
      rcases List.mem_append.mp hp with h | h
      · rw [← hP] at h
        obtain ⟨k, hk, rfl⟩ := List.mem_map.mp h
        have hk := List.mem_range.mp (List.mem_filter.mp hk).1
        obtain ⟨d, h1, h2⟩ := g2 k hk
        have : dg.getD (2 + k) 0 = d := by simp [List.getD, h1]
        rw [this]; exact ⟨by omega, by omega⟩
      · rw [← hP2] at h
        obtain ⟨d, hd, rfl⟩ := List.mem_map.mp h
        exact ⟨Nat.div_lt_of_lt_mul (g3 d hd), Nat.mod_lt _ (by omega)⟩
    have hlp : (P1 ++ P2).length ≤ q + x := by rw [List.length_append]; omega
    refine wp_forE toD (P1 ++ P2) (fun rest Γ => ∃ (done : List (Nat × Nat)) (kvs : List (Tie × Bool)) (a b k d : Option O), Γ = [sI c, sI salt, sN most, sN more, sD (.bool loose), sN (1 + q), sD (toD (([most, more + 1] ++ (List.range q).map fun k => k + 1) ++ (List.range (1 + q)).map fun k => 1 + q - k)), sD (toD dg), sD (toD p), sD (toD (P1 ++ P2)), some (.dic (kO shT kvs)), a, b, k, d] ∧ P1 ++ P2 = done ++ rest ∧
      (kvs.map (·.1)).Nodup ∧ kvs.length ≤ done.length ∧ ∀ t, t ∈ kvs.map (·.1) ↔ ∃ r ∈ done, r.1 ≠ r.2 ∧ t = tieBy p r) rfl ⟨[], [], _, _, _, _, rfl, rfl, by simp, by simp, by simp⟩ ?_ ?_
    · rintro ⟨a, b⟩ rest Γ ⟨done, kvs, x1, x2, x3, x4, rfl, ed, nd, kl, mem⟩
      have hab := hw (a, b) (by rw [ed]; simp)
      have hdl2 : done.length < 3000 := by rw [ed, List.length_append, List.length_cons] at hlp; omega
      have ed2 : P1 ++ P2 = (done ++ [(a, b)]) ++ rest := by rw [ed]; simp
      refine ⟨_, by simp_arith [toD_mk], ?_⟩
      unfold den_law_web_b6
      by_cases hne : a = b
      · subst hne
        have cc : (!decide ((a : Int) = (a : Int))) = false := by simp
        simp_all_arith [cc]
        refine ⟨done ++ [(a, a)], kvs, _, _, _, _, rfl, ed2, nd, by rw [List.length_append]; omega, fun t => ?_⟩
        rw [mem]
        constructor
        · rintro ⟨r, hr, h⟩; exact ⟨r, List.mem_append_left _ hr, h⟩
        · rintro ⟨r, hr, h⟩
          rcases List.mem_append.mp hr with hr | hr
          · exact ⟨r, hr, h⟩
          · rw [List.mem_singleton] at hr; subst hr; exact absurd rfl h.1
      · have cc : (!decide ((a : Int) = (b : Int))) = true := by simp; omega
        have o1 : p[a]? = some (p.getD a 0) := get?_getD (by omega)
        have o2 : p[b]? = some (p.getD b 0) := get?_getD (by omega)
        have sd := x_setT kvs (tieBy p (a, b)) true (by omega)
        have sd : setO (.dic (kO shT kvs)) (.tuple [.int ((min (p.getD a 0) (p.getD b 0) : Nat) : Int), .int ((max (p.getD a 0) (p.getD b 0) : Nat) : Int)]) (.sh (.bool true)) = _ := sd
        simp_all_arith [cc, o1, o2, sd]
        refine ⟨done ++ [(a, b)], putT kvs (tieBy p (a, b)) true, _, _, _, _, rfl, ed2, putT_nodup nd, ?_, fun t => ?_⟩
        · have := putT_len (kvs := kvs) (k := tieBy p (a, b)) (v := true)
          rw [List.length_append, List.length_singleton]; omega
        · rw [putT_mem, mem]
          constructor
          · rintro (⟨r, hr, h⟩ | rfl)
            · exact ⟨r, List.mem_append_left _ hr, h⟩
            · exact ⟨(a, b), by simp, hne, rfl⟩
          · rintro ⟨r, hr, h⟩
            rcases List.mem_append.mp hr with hr | hr
            · exact .inl ⟨r, hr, h⟩
            · rw [List.mem_singleton] at hr; subst hr; exact .inr h.2
    · rintro Γ ⟨done, kvs, x1, x2, x3, x4, rfl, ed, nd, kl, mem⟩
      rw [List.append_nil] at ed
      subst ed
      simp_all_arith [t_sortedK (kD toD kvs) (kvs.map (·.1)) (kD_keys toD kvs)]
      refine ⟨1 + q, p, P1 ++ P2, srt (kvs.map (·.1)), rfl, by omega, by omega, ⟨hp, hw, fun t => ?_, srt_lt nd, ?_⟩, by omega, fun hf k hk => ?_⟩
      · rw [mem_srt, mem]
      · rw [srt_len, List.length_map]; exact kl
      · obtain ⟨d, h1, h2⟩ := g2 k (by omega)
        refine ⟨d, by omega, List.mem_append_left _ ?_⟩
        rw [← hP]
        refine List.mem_map.mpr ⟨k, List.mem_filter.mpr ⟨List.mem_range.mpr (by omega), by rw [hf]; rfl⟩, ?_⟩
        have : dg.getD (2 + k) 0 = d := by simp [List.getD, h1]
        rw [this]
  obtain ⟨r, e, n, order, pairs, ts, rfl, h⟩ := key
  exact ⟨n, order, pairs, ts, e, h⟩
theorem pair_cut {m : Nat} (h0 : 0 < m) (h1 : m < 1152921504606846976) : 0 < m ∧ m.log2 < 9000 := ⟨h0, log2_small h1⟩
theorem law_web_3_ok {pool : O} (hp : Pool pool) {most more : Nat} (h1 : 1 ≤ most) (h2 : most ≤ 1000) (h3 : more ≤ 1000) : ∃ (n : Nat) (order : List Nat) (pairs : List (Nat × Nat)) (ts : List Tie) (pool' : O), G_law_web_3 pool [.int (most : Int), .int (more : Int)] = some (.tup [.sh (.int (n : Int)), tO ts], pool') ∧ Pool pool' ∧
    1 ≤ n ∧ n ≤ most ∧ Drawn n order pairs ts ∧ pairs.length + 1 ≤ n + more ∧ (∀ k, k + 1 < n → ∃ d, d ≤ k ∧ (k + 1, d) ∈ pairs) := by
  have key : ∃ r o', G_law_web_3 pool [.int (most : Int), .int (more : Int)] = some (r, o') ∧ ∃ (n : Nat) (order : List Nat) (pairs : List (Nat × Nat)) (ts : List Tie), r = .tup [.sh (.int (n : Int)), tO ts] ∧ Pool o' ∧
    1 ≤ n ∧ n ≤ most ∧ Drawn n order pairs ts ∧ pairs.length + 1 ≤ n + more ∧ (∀ k, k + 1 < n → ∃ d, d ≤ k ∧ (k + 1, d) ∈ pairs) := by
    refine runM_wp ?_
    unfold den_law_web_3 envM
    obtain ⟨q, pool1, e1, hq, hp1⟩ := take_ok hp (many := most) (by omega) (log2_small (by omega))
    simp_all_arith [e1]
    refine wpM_comp toD (List.range (1 + q)) (fun rest acc Γ => ∃ (pl : O) (names p : List Nat), Γ = [some pl, sN most, sN more, sN (1 + q), some (tO names), none, none, none, none, none, none] ∧ acc = p.map shT ∧ (p ++ names).Perm (List.range (1 + q)) ∧ names.length = rest.length ∧ Pool pl) (by simp_arith []) rfl ⟨pool1, List.range (1 + q), [], rfl, rfl, by simp, by simp, hp1⟩ ?_ ?_
    · rintro k rest acc Γ ⟨pl, names, p, rfl, rfl, hpm, hn, hpl⟩
      have hlen : (p ++ names).length = 1 + q := by rw [hpm.length_eq, List.length_range]
      rw [List.length_append] at hlen
      rw [List.length_cons] at hn
      obtain ⟨f, pl2, e2, hf, hp2⟩ := take_ok hpl (many := names.length) (by omega) (log2_small (by omega))
      refine ⟨by rw [List.length_map]; omega, _, _, true, by simp_arith [], rfl, .inr ⟨rfl, nO names[f], _, by simp_arith [den_law_web_3_e1, e2, t_popN names f names[f] (List.getElem?_eq_getElem hf) (by omega)], pl2, names.eraseIdx f, p ++ [names[f]], by simp_arith [], by rw [List.map_append]; rfl, ?_, ?_, hp2⟩⟩
      · refine List.Perm.trans ?_ hpm
        rw [List.append_assoc]
        exact List.Perm.append_left p (perm_eraseIdx names f hf)
      · rw [List.length_eraseIdx, if_pos hf]; omega
    rintro l Γ ⟨pl, names, p, rfl, rfl, hp', hn, hpl⟩
    have hn0 : names = [] := List.length_eq_zero_iff.mp hn
    subst hn0
    rw [List.append_nil] at hp'
    simp_all_arith []
    refine wpM_comp toD (List.range' 1 (1 + q - 1)) (fun rest acc Γ => ∃ (pl : O) (j : Nat) (prs : List (Nat × Nat)), Γ = [some pl, sN most, sN more, sN (1 + q), some (.lst []), sD (toD p), none, none, none, none, none] ∧ rest = List.range' (1 + j) (q - j) ∧ j ≤ q ∧ acc = prs.map pO ∧ Pool pl ∧ prs.length = j ∧ (∀ r ∈ prs, r.1 < 1 + q ∧ r.2 < 1 + q) ∧ ∀ k, k < j → ∃ d, d ≤ k ∧ (k + 1, d) ∈ prs) (by simp_arith []) rfl
      ⟨pl, 0, [], by simp_arith [], by rw [show 1 + q - 1 = q - 0 by omega], by omega, rfl, hpl, rfl, by simp, fun k hk => absurd hk (Nat.not_lt_zero k)⟩ ?_ ?_
    · rintro k rest acc Γ ⟨pl, j, prs, rfl, er, hj, rfl, hpl, hl, hw, hch⟩
      have hj2 : j < q := by
        rcases Nat.lt_or_ge j q with h | h
        · exact h
        · rw [show q - j = 0 by omega] at er; cases er
      rw [show q - j = (q - (j + 1)) + 1 by omega, List.range'_succ] at er
      injection er with er1 er2
      subst er1
      obtain ⟨f, pl2, e2, hf, hp2⟩ := take_ok hpl (many := 1 + j) (by omega) (log2_small (by omega))
      refine ⟨by rw [List.length_map]; omega, _, _, true, by simp_arith [], rfl, .inr ⟨rfl, pO (1 + j, f), _, by simp_arith [den_law_web_3_e2, e2, pO], pl2, j + 1, prs ++ [(1 + j, f)], by simp_arith [], er2, by omega, by rw [List.map_append]; rfl, hp2, by rw [List.length_append, hl]; rfl, fun r hr => ?_, fun k hk => ?_⟩⟩
      · rcases List.mem_append.mp hr with h | h
        · exact hw r h
        · rw [List.mem_singleton] at h; subst h; exact ⟨by show 1 + j < 1 + q; omega, by show f < 1 + q; omega⟩
      · by_cases q2 : k < j
        · obtain ⟨d, hd1, hd2⟩ := hch k q2
          exact ⟨d, hd1, List.mem_append_left _ hd2⟩
        · have : k = j := by omega
          subst this
          exact ⟨f, by omega, by rw [Nat.add_comm k 1]; simp⟩
    rintro l Γ ⟨pl, j, prs, rfl, er, hj, rfl, hpl, hl, hw, hch⟩
    have hj1 : j = q := by
      rcases Nat.lt_or_ge j q with h | h
      · rw [show q - j = (q - (j + 1)) + 1 by omega, List.range'_succ] at er; cases er
      · omega
    subst hj1
    obtain ⟨x, pl3, e3, hx, hp3⟩ := take_ok hpl (many := more + 1) (by omega) (log2_small (by omega))
    simp_all_arith [e3]
    refine wp_forE toD (List.range x) (fun rest Γ => ∃ (pl : O) (prs : List (Nat × Nat)) (y : Option O), Γ = [some pl, sN most, sN more, sN (1 + j), some (.lst []), sD (toD p), some (.lst (prs.map pO)), y, none, none, none] ∧ Pool pl ∧ prs.length + rest.length ≤ j + x ∧ (∀ r ∈ prs, r.1 < 1 + j ∧ r.2 < 1 + j) ∧ ∀ k, k < j → ∃ d, d ≤ k ∧ (k + 1, d) ∈ prs) rfl
      ⟨pl3, prs, _, rfl, hp3, by rw [List.length_range]; omega, hw, hch⟩ ?_ ?_
    · rintro d rest Γ ⟨pl, prs, y, rfl, hpl, hll, hw, hch⟩
      rw [List.length_cons] at hll
      obtain ⟨f, pl4, e4, hf, hp4⟩ := take_ok hpl (many := 1 + j) (by omega) (log2_small (by omega))
      obtain ⟨f2, pl5, e5, hf2, hp5⟩ := take_ok hp4 (many := 1 + j) (by omega) (log2_small (by omega))
      refine ⟨_, by simp_arith [], ?_⟩
      unfold den_law_web_3_b3
      simp_all_arith [e4, e5]
      refine ⟨pl5, prs ++ [(f, f2)], _, rfl, hp5, by rw [List.length_append, List.length_singleton]; omega, fun r hr => ?_, fun k hk => ?_⟩
      · rcases List.mem_append.mp hr with h | h
        · exact hw r h
        · rw [List.mem_singleton] at h; subst h; exact ⟨hf, hf2⟩
      · obtain ⟨d, hd1, hd2⟩ := hch k hk
        exact ⟨d, hd1, List.mem_append_left _ hd2⟩
    rintro Γ ⟨pl, P1, y, rfl, hpl, hlp, hw, hch⟩
    have hpl2 : p.length = 1 + j := by rw [hp'.length_eq, List.length_range]
    rw [List.length_nil, Nat.add_zero] at hlp
    simp_all_arith []
    refine wp_forE toD P1 (fun rest Γ => ∃ (done : List (Nat × Nat)) (kvs : List (Tie × Bool)) (a b : Option O), Γ = [some pl, sN most, sN more, sN (1 + j), some (.lst []), sD (toD p), sD (toD P1), y, some (.dic (kO shT kvs)), a, b] ∧ P1 = done ++ rest ∧
      (kvs.map (·.1)).Nodup ∧ kvs.length ≤ done.length ∧ ∀ t, t ∈ kvs.map (·.1) ↔ ∃ r ∈ done, r.1 ≠ r.2 ∧ t = tieBy p r) rfl ⟨[], [], _, _, rfl, rfl, by simp, by simp, by simp⟩ ?_ ?_
    · rintro ⟨a, b⟩ rest Γ ⟨done, kvs, x1, x2, rfl, ed, nd, kl, mem⟩
      have hab := hw (a, b) (by rw [ed]; simp)
      have hdl2 : done.length < 3000 := by rw [ed, List.length_append, List.length_cons] at hlp; omega
      have ed2 : P1 = (done ++ [(a, b)]) ++ rest := by rw [ed]; simp
      refine ⟨_, by simp_arith [toD_mk], ?_⟩
      unfold den_law_web_3_b4
      by_cases hne : a = b
      · subst hne
        have cc : (!decide ((a : Int) = (a : Int))) = false := by simp
        simp_all_arith [cc]
        refine ⟨done ++ [(a, a)], kvs, _, _, rfl, ed2, nd, by rw [List.length_append]; omega, fun t => ?_⟩
        rw [mem]
        constructor
        · rintro ⟨r, hr, h⟩; exact ⟨r, List.mem_append_left _ hr, h⟩
        · rintro ⟨r, hr, h⟩
          rcases List.mem_append.mp hr with hr | hr
          · exact ⟨r, hr, h⟩
          · rw [List.mem_singleton] at hr; subst hr; exact absurd rfl h.1
      · have cc : (!decide ((a : Int) = (b : Int))) = true := by simp; omega
        have o1 : p[a]? = some (p.getD a 0) := get?_getD (by omega)
        have o2 : p[b]? = some (p.getD b 0) := get?_getD (by omega)
        have sd := x_setT kvs (tieBy p (a, b)) true (by omega)
        have sd : setO (.dic (kO shT kvs)) (.tuple [.int ((min (p.getD a 0) (p.getD b 0) : Nat) : Int), .int ((max (p.getD a 0) (p.getD b 0) : Nat) : Int)]) (.sh (.bool true)) = _ := sd
        simp_all_arith [cc, o1, o2, sd]
        refine ⟨done ++ [(a, b)], putT kvs (tieBy p (a, b)) true, _, _, rfl, ed2, putT_nodup nd, ?_, fun t => ?_⟩
        · have := putT_len (kvs := kvs) (k := tieBy p (a, b)) (v := true)
          rw [List.length_append, List.length_singleton]; omega
        · rw [putT_mem, mem]
          constructor
          · rintro (⟨r, hr, h⟩ | rfl)
            · exact ⟨r, List.mem_append_left _ hr, h⟩
            · exact ⟨(a, b), by simp, hne, rfl⟩
          · rintro ⟨r, hr, h⟩
            rcases List.mem_append.mp hr with hr | hr
            · exact .inl ⟨r, hr, h⟩
            · rw [List.mem_singleton] at hr; subst hr; exact .inr h.2
    · rintro Γ ⟨done, kvs, x1, x2, rfl, ed, nd, kl, mem⟩
      rw [List.append_nil] at ed
      subst ed
      simp_all_arith [t_sortedK (kD toD kvs) (kvs.map (·.1)) (kD_keys toD kvs)]
      refine retM_rt (o' := pl) rfl ⟨1 + j, p, P1, srt (kvs.map (·.1)), rfl, hpl, by omega, by omega, ⟨hp', hw, fun t => ?_, srt_lt nd, ?_⟩, by omega, fun k hk => hch k (by omega)⟩
      · rw [mem_srt, mem]
      · rw [srt_len, List.length_map]; exact kl
  obtain ⟨r, o', e, n, order, pairs, ts, rfl, h⟩ := key
  exact ⟨n, order, pairs, ts, o', e, h.1, h.2⟩
theorem getD_of_mem {l : List Nat} {i : Nat} (h : i < l.length) : l.getD i 0 ∈ l := by
  simp [h]
theorem perm_lt {p : List Nat} {n i : Nat} (hp : p.Perm (List.range n)) (h : i < n) : p.getD i 0 < n := by
  have hl : p.length = n := by rw [hp.length_eq, List.length_range]
  have := hp.mem_iff.mp (getD_of_mem (l := p) (i := i) (by omega))
  exact List.mem_range.mp this
theorem perm_inj {p : List Nat} {n i j : Nat} (hp : p.Perm (List.range n)) (hi : i < n) (hj : j < n) (e : p.getD i 0 = p.getD j 0) : i = j := by
  have hl : p.length = n := by rw [hp.length_eq, List.length_range]
  have nd : p.Nodup := hp.nodup_iff.mpr List.nodup_range
  have e1 : p[i]'(by omega) = p[j]'(by omega) := by
    have a := get?_getD (l := p) (d := 0) (show i < p.length by omega)
    have b := get?_getD (l := p) (d := 0) (show j < p.length by omega)
    rw [e, ← b] at a
    rw [List.getElem?_eq_getElem (by omega), List.getElem?_eq_getElem (by omega)] at a
    exact Option.some.inj a
  exact (List.getElem_inj nd).mp e1
theorem Drawn.tie {n : Nat} {order : List Nat} {pairs : List (Nat × Nat)} {ts : List Tie} (d : Drawn n order pairs ts) : ∀ t ∈ ts, t.1 < t.2 ∧ t.2 < n := by
  intro t ht
  obtain ⟨p, hp, hne, rfl⟩ := (d.mem t).mp ht
  have hw := d.within p hp
  have h1 := perm_lt d.perm hw.1
  have h2 := perm_lt d.perm hw.2
  have h3 : order.getD p.1 0 ≠ order.getD p.2 0 := fun e => hne (perm_inj d.perm hw.1 hw.2 e)
  show min _ _ < max _ _ ∧ max _ _ < n
  omega
theorem Drawn.good {n : Nat} {order : List Nat} {pairs : List (Nat × Nat)} {ts : List Tie} (d : Drawn n order pairs ts) (h1 : 1 ≤ n) (h2 : n ≤ 40) (h3 : pairs.length ≤ 120) : Good (n, ts) :=
  ⟨h1, h2, Nat.le_trans d.few h3, d.tie, d.srt⟩
theorem Good.lt {w : Web} (g : Good w) : ∀ t ∈ w.2, t.1 < 40 ∧ t.2 < 40 := fun t ht => by
  have := g.ok t ht
  have := g.hi
  omega
theorem Good.sh {w : Web} (g : Good w) : Sh 40000 (toD w) :=
  sh_web (by have := g.hi; omega) (by have := g.few; omega) fun t ht => by have := g.lt t ht; omega
theorem repr_good {w : Web} (g : Good w) : bRepr [toD w] = some (.str (toD w).shown) := t_repr w g.sh (by decide)
theorem law_web_2_ok (c salt : Int) {most more : Nat} (h1 : 1 ≤ most) (h2 : most ≤ 1000) (h3 : more ≤ 1000) : ∃ (n : Nat) (order : List Nat) (pairs : List (Nat × Nat)) (ts : List Tie), G_law_web_2 [.int c, .int salt, .int (most : Int), .int (more : Int)] = some (.ok (.tup [.sh (.int (n : Int)), tO ts])) ∧
    1 ≤ n ∧ n ≤ most ∧ Drawn n order pairs ts ∧ pairs.length + 1 ≤ n + more ∧ (∀ k, k + 1 < n → ∃ d, d ≤ k ∧ (k + 1, d) ∈ pairs) := by
  have key : ∃ r, G_law_web_2 [.int c, .int salt, .int (most : Int), .int (more : Int)] = some r ∧ ∃ (n : Nat) (order : List Nat) (pairs : List (Nat × Nat)) (ts : List Tie), r = .ok (.tup [.sh (.int (n : Int)), tO ts]) ∧
    1 ≤ n ∧ n ≤ most ∧ Drawn n order pairs ts ∧ pairs.length + 1 ≤ n + more ∧ (∀ k, k + 1 < n → ∃ d, d ≤ k ∧ (k + 1, d) ∈ pairs) := by
    refine runF_wp ?_
    unfold den_law_web_2 env0
    obtain ⟨f1, e1, hf1⟩ := numbers_ok c salt (sizes := [most]) (fun m hm => by
      rw [List.mem_singleton] at hm; subst hm; exact ⟨by omega, log2_small (by omega)⟩) (by simp)
    obtain ⟨q, rfl, hq⟩ := hf1.one
    have e1 : G_law_numbers [.int c, .int salt, .list [.int (most : Int)]] = some (.ok (tO [q])) := e1
    have i1 : dIx (toD [q]) (.int 0) = some (.int (q : Int)) := t_ix [q] 0
    have c0 : decide ((0 : Int) < (1 + q : Nat)) = true := decide_eq_true (by omega)
    have s1 : dSub (.int ((1 + q : Nat) : Int)) (.int 1) = some (.int (q : Int)) := by rw [x_subI]; congr 2; omega
    simp_all_arith [e1, i1, s1]
    refine wpM_compT toD (List.range q) (fun k => k + 1) (by simp_arith [s1]) rfl (by rw [List.length_range]; omega) (fun k hk => ⟨_, _, by simp_arith [], by simp_arith [den_law_web_2_e1], by simp_arith []⟩) ?_
    have a1 : dAdd (.list [.int (most : Int), .int ((more + 1 : Nat) : Int)]) (toD ((List.range q).map fun k => k + 1)) = some (toD ([most, more + 1] ++ (List.range q).map fun k => k + 1)) := t_add [most, more + 1] _ (by simp; omega)
    simp_all_arith [a1]
    refine wpM_compT toD (List.range (1 + q)) (fun k => 1 + q - k) (by simp_arith []) rfl (by rw [List.length_range]; omega) (fun k hk => ?_) ?_
    · have hk := List.mem_range.mp hk
      have e2 : dSub (.int ((1 + q : Nat) : Int)) (.int (k : Int)) = some (.int ((1 + q - k : Nat) : Int)) := by rw [x_subI]; congr 2; omega
      exact ⟨_, _, by simp_arith [], by simp_arith [den_law_web_2_e2, e2], by simp_arith []⟩
    have m1 : dMul (.list [.int (((1 + q) * (1 + q) : Nat) : Int)]) (.int (more : Int)) = some (toD (List.replicate more ((1 + q) * (1 + q)))) := by
      rw [x_mulL1 (by omega) (by omega), toD_list, List.map_replicate]; rfl
    have hsz : ∀ m ∈ ([most, more + 1] ++ (List.range q).map fun k => k + 1) ++ (List.range (1 + q)).map (fun k => 1 + q - k) ++ List.replicate more ((1 + q) * (1 + q)), 0 < m ∧ m.log2 < 9000 := by
      intro m hm
      have : 0 < m ∧ m < 1152921504606846976 := by
        simp only [List.mem_append, List.mem_cons, List.mem_map, List.mem_range, List.mem_replicate, List.not_mem_nil, or_false] at hm
        have hqq : (1 + q) * (1 + q) ≤ 1000 * 1000 := Nat.mul_le_mul (by omega) (by omega)
        have hqp : 0 < (1 + q) * (1 + q) := Nat.mul_pos (by omega) (by omega)
        rcases hm with (((h | h) | ⟨k, h, h'⟩) | ⟨k, h, h'⟩) | ⟨_, h⟩ <;> omega
      exact ⟨this.1, log2_small this.2⟩
    obtain ⟨dg, e3, hd⟩ := numbers_ok c salt hsz (by simp; omega)
    have hdl : dg.length = 3 + 2 * q + more := by rw [hd.length]; simp; omega
    have g1 : ∃ x, dg[1]? = some x ∧ x < more + 1 := hd.get (by simp)
    obtain ⟨x, gx, hx⟩ := g1
    have g2 : ∀ k, k < q → ∃ d, dg[2 + k]? = some d ∧ d < k + 1 := fun k hk => hd.get (by
      rw [List.getElem?_append_left (by simp; omega), List.getElem?_append_left (by simp; omega), List.getElem?_append_right (by simp)]
      simp [show 2 + k - 2 = k by omega, hk])
    have g3 : ∀ d ∈ (dg.take (2 * (1 + q) + 1 + x)).drop (2 * (1 + q) + 1), d < (1 + q) * (1 + q) := fun d hdm => by
      obtain ⟨i, hi, e⟩ := List.getElem_of_mem hdm
      rw [List.getElem_drop, List.getElem_take] at e
      rw [List.length_drop, List.length_take] at hi
      have hi2 : i < x := by omega
      obtain ⟨f, h1, h2⟩ := hd.get (i := 2 * (1 + q) + 1 + i) (m := (1 + q) * (1 + q)) (by
        rw [List.getElem?_append_right (by simp; omega)]
        rw [List.getElem?_replicate, if_pos (by simp; omega)])
      rw [List.getElem?_eq_getElem (by omega)] at h1
      injection h1 with h1
      rw [← e, h1]; exact h2
    have g4 : ∀ k, k < 1 + q → ∃ d, dg[1 + q + 1 + k]? = some d ∧ d < 1 + q - k := fun k hk => hd.get (by
      rw [List.getElem?_append_left (by simp; omega), List.getElem?_append_right (by simp; omega)]
      rw [List.getElem?_map, List.getElem?_range (by simp; omega)]
      simp; omega)
    have i2 : dIx (toD dg) (.int 1) = some (.int (x : Int)) := (t_ix dg 1).trans (by rw [gx]; rfl)
    simp_all_arith [e3, m1, s1]
    refine wp_forE toD (List.range (1 + q)) (fun rest Γ => ∃ (j : Nat) (names p : List Nat) (kx : Option O), rest = List.range' j (1 + q - j) ∧ j ≤ 1 + q ∧ Γ = [sI c, sI salt, sN most, sN more, sN (1 + q), sD (toD (([most, more + 1] ++ (List.range q).map fun k => k + 1) ++ (List.range (1 + q)).map fun k => 1 + q - k)), sD (toD dg), some (tO names), some (tO p), kx, none, none, none, none, none] ∧
      (p ++ names).Perm (List.range (1 + q)) ∧ names.length = 1 + q - j ∧ p.length = j ∧ ∀ i, j = i + 1 → kx = sN i) rfl ⟨0, List.range (1 + q), [], _, by rw [List.range_eq_range']; rfl, by omega, rfl, by simp, by simp, rfl, fun i h => by omega⟩ ?_ ?_
    · rintro k rest Γ ⟨j, names, p, kx, er, hj, rfl, hp, hn, hpl, _⟩
      have hj2 : j < 1 + q := by
        rcases Nat.lt_or_ge j (1 + q) with h | h
        · exact h
        · rw [show 1 + q - j = 0 by omega] at er; cases er
      rw [show 1 + q - j = (1 + q - (j + 1)) + 1 by omega, List.range'_succ] at er
      injection er with er1 er2
      subst er1
      obtain ⟨d, hd1, hd2⟩ := g4 k hj2
      have hdn : d < names.length := by omega
      have ix : dIx (toD dg) (.int ((1 + q + 1 + k : Nat) : Int)) = some (.int (d : Int)) := by rw [t_ix, hd1]; rfl
      refine ⟨_, by simp_arith [], ?_⟩
      unfold den_law_web_2_b3
      simp_all_arith [ix, t_popN names d names[d] (List.getElem?_eq_getElem hdn)]
      refine ⟨k + 1, names.eraseIdx d, p ++ [names[d]], _, er2, by omega, rfl, ?_, by rw [List.length_eraseIdx, if_pos hdn]; omega, by rw [List.length_append, hpl]; rfl, fun i h => by rw [show i = k by omega]⟩
      refine List.Perm.trans ?_ hp
      rw [List.append_assoc]
      exact List.Perm.append_left p (perm_eraseIdx names d hdn)
    rintro Γ ⟨j, names, p, kx, er, hj, rfl, hp, hn, hpl, hkx⟩
    have hj1 : j = 1 + q := by
      rcases Nat.lt_or_ge j (1 + q) with h | h
      · rw [show 1 + q - j = (1 + q - (j + 1)) + 1 by omega, List.range'_succ] at er; cases er
      · omega
    subst hj1
    have hkx := hkx q (by omega)
    subst hkx
    have hn0 : names = [] := List.length_eq_zero_iff.mp (by omega)
    subst hn0
    rw [List.append_nil] at hp
    simp_all_arith []
    have pf : ∀ k, k < q → dIx (toD dg) (.int ((2 + k : Nat) : Int)) = some (.int ((dg.getD (2 + k) 0 : Nat) : Int)) := fun k hk => by
      rw [t_ix, get?_getD (d := 0) (by omega)]; rfl
    have c2a : ∀ k : Nat, (2 : Int) + (k : Int) = ((2 + k : Nat) : Int) := fun k => by omega
    refine wpM_compT toD (List.range q) (fun k => (k + 1, dg.getD (2 + k) 0)) (by simp_arith [s1]) rfl (by rw [List.length_range]; omega) (fun k hk => ⟨_, _, by simp_arith [], by simp_arith [den_law_web_2_e4, c2a, pf k (List.mem_range.mp hk)], by simp_arith []⟩) ?_
    have hn : (0 : Int) < ((1 + q : Nat) : Int) := by omega
    have c2b : (2 * (1 + q) + 1 : Nat) + x = 2 * (1 + q) + 1 + x := rfl
    have hl1 : ((List.range q).map fun k => (k + 1, dg.getD (2 + k) 0)).length = q := by rw [List.length_map, List.length_range]
    have hl2 : (((dg.take (2 * (1 + q) + 1 + x)).drop (2 * (1 + q) + 1)).map fun d => (d / (1 + q), d % (1 + q))).length ≤ x := by
      rw [List.length_map, List.length_drop, List.length_take]; omega
    generalize hP : ((List.range q).map fun k => (k + 1, dg.getD (2 + k) 0)) = P1 at *
    simp_all_arith [i2, cut_nat]
    have hll : ((dg.take (2 * (1 + q) + 1 + x)).drop (2 * (1 + q) + 1)).length ≤ x := by rw [List.length_map] at hl2; exact hl2
    refine wp_forE toD ((dg.take (2 * (1 + q) + 1 + x)).drop (2 * (1 + q) + 1)) (fun rest Γ => ∃ (done : List Nat) (y : Option O), (dg.take (2 * (1 + q) + 1 + x)).drop (2 * (1 + q) + 1) = done ++ rest ∧ Γ = [sI c, sI salt, sN most, sN more, sN (1 + q), sD (toD (([most, more + 1] ++ (List.range q).map fun k => k + 1) ++ (List.range (1 + q)).map fun k => 1 + q - k)), sD (toD dg), some (.lst []), some (tO p), sN q, some (tO (P1 ++ done.map fun d => (d / (1 + q), d % (1 + q)))), y, none, none, none]) rfl ⟨[], _, rfl, by (rw [List.map_nil, List.append_nil]) <;> rfl⟩ ?_ ?_
    · rintro d rest Γ ⟨done, y, ed, rfl⟩
      have hdl3 : done.length < 2000 := by rw [ed, List.length_append, List.length_cons] at hll; omega
      refine ⟨_, by simp_arith [], ?_⟩
      unfold den_law_web_2_b5
      simp_all_arith []
      have e9 : P1 ++ (done ++ [d]).map (fun d => (d / (1 + q), d % (1 + q))) = P1 ++ done.map (fun d => (d / (1 + q), d % (1 + q))) ++ [(d / (1 + q), d % (1 + q))] := by
        rw [List.map_append, List.append_assoc]; rfl
      exact ⟨done ++ [d], _, by rw [ed]; simp, by rw [e9]; rfl⟩
    rintro Γ ⟨done, y, ed, rfl⟩
    rw [List.append_nil] at ed
    rw [ed] at hl2 g3
    generalize hP2 : (done.map fun d => (d / (1 + q), d % (1 + q))) = P2 at *
    simp_all_arith []
    have hw : ∀ p ∈ P1 ++ P2, p.1 < 1 + q ∧ p.2 < 1 + q := by
      intro p hp
      rcases List.mem_append.mp hp with h | h
      · rw [← hP] at h
        obtain ⟨k, hk, rfl⟩ := List.mem_map.mp h
        have hk := List.mem_range.mp hk
        obtain ⟨d, h1, h2⟩ := g2 k hk
        have : dg.getD (2 + k) 0 = d := by simp [List.getD, h1]
        rw [this]; exact ⟨by omega, by omega⟩
      · rw [← hP2] at h
        obtain ⟨d, hd, rfl⟩ := List.mem_map.mp h
        exact ⟨Nat.div_lt_of_lt_mul (g3 d hd), Nat.mod_lt _ (by omega)⟩
    have hlp : (P1 ++ P2).length ≤ q + x := by rw [List.length_append]; omega
    refine wp_forE toD (P1 ++ P2) (fun rest Γ => ∃ (done : List (Nat × Nat)) (kvs : List (Tie × Bool)) (a b k d : Option O), Γ = [sI c, sI salt, sN most, sN more, sN (1 + q), sD (toD (([most, more + 1] ++ (List.range q).map fun k => k + 1) ++ (List.range (1 + q)).map fun k => 1 + q - k)), sD (toD dg), some (.lst []), some (tO p), k, sD (toD (P1 ++ P2)), d, some (.dic (kO shT kvs)), a, b] ∧ P1 ++ P2 = done ++ rest ∧
      (kvs.map (·.1)).Nodup ∧ kvs.length ≤ done.length ∧ ∀ t, t ∈ kvs.map (·.1) ↔ ∃ r ∈ done, r.1 ≠ r.2 ∧ t = tieBy p r) rfl ⟨[], [], _, _, _, _, rfl, rfl, by simp, by simp, by simp⟩ ?_ ?_
    · rintro ⟨a, b⟩ rest Γ ⟨done, kvs, x1, x2, x3, x4, rfl, ed, nd, kl, mem⟩
      have hab := hw (a, b) (by rw [ed]; simp)
      have hdl2 : done.length < 3000 := by rw [ed, List.length_append, List.length_cons] at hlp; omega
      have ed2 : P1 ++ P2 = (done ++ [(a, b)]) ++ rest := by rw [ed]; simp
      refine ⟨_, by simp_arith [toD_mk], ?_⟩
      unfold den_law_web_2_b6
      by_cases hne : a = b
      · subst hne
        have cc : (!decide ((a : Int) = (a : Int))) = false := by simp
        simp_all_arith [cc]
        refine ⟨done ++ [(a, a)], kvs, _, _, _, _, rfl, ed2, nd, by rw [List.length_append]; omega, fun t => ?_⟩
        rw [mem]
        constructor
        · rintro ⟨r, hr, h⟩; exact ⟨r, List.mem_append_left _ hr, h⟩
        · rintro ⟨r, hr, h⟩
          rcases List.mem_append.mp hr with hr | hr
          · exact ⟨r, hr, h⟩
          · rw [List.mem_singleton] at hr; subst hr; exact absurd rfl h.1
      · have cc : (!decide ((a : Int) = (b : Int))) = true := by simp; omega
        have o1 : p[a]? = some (p.getD a 0) := get?_getD (by omega)
        have o2 : p[b]? = some (p.getD b 0) := get?_getD (by omega)
        have sd := x_setT kvs (tieBy p (a, b)) true (by omega)
        have sd : setO (.dic (kO shT kvs)) (.tuple [.int ((min (p.getD a 0) (p.getD b 0) : Nat) : Int), .int ((max (p.getD a 0) (p.getD b 0) : Nat) : Int)]) (.sh (.bool true)) = _ := sd
        simp_all_arith [cc, o1, o2, sd]
        refine ⟨done ++ [(a, b)], putT kvs (tieBy p (a, b)) true, _, _, _, _, rfl, ed2, putT_nodup nd, ?_, fun t => ?_⟩
        · have := putT_len (kvs := kvs) (k := tieBy p (a, b)) (v := true)
          rw [List.length_append, List.length_singleton]; omega
        · rw [putT_mem, mem]
          constructor
          · rintro (⟨r, hr, h⟩ | rfl)
            · exact ⟨r, List.mem_append_left _ hr, h⟩
            · exact ⟨(a, b), by simp, hne, rfl⟩
          · rintro ⟨r, hr, h⟩
            rcases List.mem_append.mp hr with hr | hr
            · exact .inl ⟨r, hr, h⟩
            · rw [List.mem_singleton] at hr; subst hr; exact .inr h.2
    · rintro Γ ⟨done, kvs, x1, x2, x3, x4, rfl, ed, nd, kl, mem⟩
      rw [List.append_nil] at ed
      subst ed
      simp_all_arith [t_sortedK (kD toD kvs) (kvs.map (·.1)) (kD_keys toD kvs)]
      refine ⟨1 + q, p, P1 ++ P2, srt (kvs.map (·.1)), rfl, by omega, by omega, ⟨hp, hw, fun t => ?_, srt_lt nd, ?_⟩, by omega, fun k hk => ?_⟩
      · rw [mem_srt, mem]
      · rw [srt_len, List.length_map]; exact kl
      · obtain ⟨d, h1, h2⟩ := g2 k (by omega)
        refine ⟨d, by omega, List.mem_append_left _ ?_⟩
        rw [← hP]
        refine List.mem_map.mpr ⟨k, List.mem_range.mpr (by omega), ?_⟩
        have : dg.getD (2 + k) 0 = d := by simp [List.getD, h1]
        rw [this]
  obtain ⟨r, e, n, order, pairs, ts, rfl, h⟩ := key
  exact ⟨n, order, pairs, ts, e, h⟩
/-- whether two places are tied -/
def tied (w : Web) (a b : Nat) : Bool := decide ((min a b, max a b) ∈ w.2)
/-- the neighbours of a place, rising -/
def nbs (w : Web) (p : Nat) : List Nat := (List.range w.1).filter fun q => tied w p q
def coll (p : Nat) (done : List Tie) : List Nat := done.filterMap fun t => if t.1 = p then some t.2 else if t.2 = p then some t.1 else none
theorem coll_snoc (p : Nat) (done : List Tie) (t : Tie) : coll p (done ++ [t]) = coll p done ++ (if t.1 = p then [t.2] else if t.2 = p then [t.1] else []) := by
  unfold coll
  rw [List.filterMap_append]
  congr 1
  by_cases h1 : t.1 = p
  · simp [h1]
  · by_cases h2 : t.2 = p <;> simp [h1, h2]
theorem coll_mem {w : Web} (g : Good w) (p q : Nat) : q ∈ coll p w.2 ↔ tied w p q = true := by
  unfold coll tied
  rw [List.mem_filterMap, decide_eq_true_eq]
  constructor
  · rintro ⟨t, ht, e⟩
    have := g.ok t ht
    by_cases h1 : t.1 = p
    · rw [if_pos h1] at e
      cases e
      rw [show (min p t.2, max p t.2) = t by rw [← h1]; ext <;> simp <;> omega]
      exact ht
    · rw [if_neg h1] at e
      by_cases h2 : t.2 = p
      · rw [if_pos h2] at e
        cases e
        rw [show (min p t.1, max p t.1) = t by rw [← h2]; ext <;> simp <;> omega]
        exact ht
      · rw [if_neg h2] at e; cases e
  · intro h
    refine ⟨_, h, ?_⟩
    have := g.ok _ h
    simp only at this
    by_cases h1 : p ≤ q
    · rw [if_pos (show min p q = p by omega)]; show some (max p q) = _; rw [Nat.max_eq_right h1]
    · rw [if_neg (show ¬ min p q = p by omega), if_pos (show max p q = p by omega)]; show some (min p q) = _; rw [Nat.min_eq_right (by omega)]
theorem good_nodup {w : Web} (g : Good w) : w.2.Nodup := g.srt.imp fun {a b} h e => by
  subst e
  rw [Srt.irr] at h; cases h
theorem coll_nodup {w : Web} (g : Good w) (p : Nat) : (coll p w.2).Nodup := by
  unfold coll
  rw [List.Nodup, List.pairwise_filterMap]
  refine (good_nodup g).imp_of_mem fun {a b} ha hb hne x hx y hy e => ?_
  subst e
  have h1 := g.ok a ha
  have h2 := g.ok b hb
  refine hne ?_
  have key : ∀ t : Tie, t.1 < t.2 → (if t.1 = p then some t.2 else if t.2 = p then some t.1 else none) = some x → t = (min p x, max p x) := by
    intro t ht e
    by_cases q1 : t.1 = p
    · rw [if_pos q1] at e; cases e
      ext <;> simp <;> omega
    · rw [if_neg q1] at e
      by_cases q2 : t.2 = p
      · rw [if_pos q2] at e; cases e
        ext <;> simp <;> omega
      · rw [if_neg q2] at e; cases e
  rw [key a h1.1 hx, key b h2.1 hy]
theorem tied_lt {w : Web} (g : Good w) {p q : Nat} (h : tied w p q = true) : p < w.1 ∧ q < w.1 ∧ p ≠ q := by
  unfold tied at h
  rw [decide_eq_true_eq] at h
  have := g.ok _ h
  simp only at this
  omega
theorem tied_comm (w : Web) (p q : Nat) : tied w p q = tied w q p := by
  unfold tied; rw [Nat.min_comm, Nat.max_comm]
theorem mem_nbs {w : Web} (g : Good w) {p q : Nat} : q ∈ nbs w p ↔ tied w p q = true := by
  unfold nbs
  rw [List.mem_filter, List.mem_range]
  exact ⟨fun h => h.2, fun h => ⟨(tied_lt g h).2.1, h⟩⟩
theorem nbs_lt (w : Web) (p : Nat) : (nbs w p).Pairwise fun a b => PySem.W.DatumOrd.lt a b = true := by
  unfold nbs
  refine List.Pairwise.filter _ ?_
  exact (List.pairwise_lt_range).imp fun h => decide_eq_true h
theorem srt_coll {w : Web} (g : Good w) (p : Nat) : srt (coll p w.2) = nbs w p :=
  srt_uniq (srt_lt (coll_nodup g p)) (nbs_lt w p) fun a => by rw [mem_srt, coll_mem g, mem_nbs g]
theorem coll_len (p : Nat) (l : List Tie) : (coll p l).length ≤ l.length := List.length_filterMap_le _ _
theorem beside_all_ok {w : Web} (g : Good w) : G_beside_all [toD w] = some (.ok (.lst (((List.range w.1).map (nbs w)).map tO))) := by
  have h1 := g.hi
  have h3 := g.few
  refine runF_ok ?_
  unfold den_beside_all env0
  simp_all_arith []
  refine wpM_compMap toD (List.range w.1) (fun _ => tO ([] : List Nat)) (by simp_arith []) rfl (by rw [List.length_range]; omega) (fun k hk => ⟨_, _, by simp_arith [], by simp_arith [den_beside_all_e1], by simp_arith []⟩) ?_
  simp_all_arith []
  refine wp_forE toD w.2 (fun rest Γ => ∃ (done : List Tie) (x y : Option O), Γ = [sD (toD w), some (.lst (((List.range w.1).map fun p => coll p done).map tO)), x, y, none, none] ∧ w.2 = done ++ rest) rfl ⟨[], _, _, by rw [List.map_map]; rfl, rfl⟩ ?_ ?_
  · rintro t rest Γ ⟨done, x, y, rfl, ed⟩
    have ht := g.ok t (by rw [ed]; simp)
    have hdl : done.length < 120 := by rw [ed, List.length_append, List.length_cons] at h3; omega
    have i1 : ((List.range w.1).map fun p => coll p done)[t.1]? = some (coll t.1 done) := by
      rw [List.getElem?_map, List.getElem?_range (by omega)]; rfl
    have c1 := coll_len t.1 done
    have c2 := coll_len t.2 done
    have i2 : (((List.range w.1).map fun p => coll p done).set t.1 (coll t.1 done ++ [t.2]))[t.2]? = some (coll t.2 done) := by
      rw [List.getElem?_set_ne (by omega), List.getElem?_map, List.getElem?_range (by omega)]; rfl
    have l1 : t.1 < ((List.range w.1).map fun p => coll p done).length := by rw [List.length_map, List.length_range]; omega
    have l2 : t.2 < (((List.range w.1).map fun p => coll p done).set t.1 (coll t.1 done ++ [t.2])).length := by rw [List.length_set, List.length_map, List.length_range]; omega
    refine ⟨_, by simp_arith [], ?_⟩
    unfold den_beside_all_b2
    simp_all_arith [i1, i2]
    have : (((List.range w.1).map fun p => coll p done).set t.1 (coll t.1 done ++ [t.2])).set t.2 (coll t.2 done ++ [t.1]) = (List.range w.1).map fun p => coll p (done ++ [t]) := by
      refine List.ext_getElem (by simp) fun i h1 h2 => ?_
      simp only [List.getElem_set, List.getElem_map, List.getElem_range, coll_snoc]
      by_cases q2 : t.2 = i
      · subst q2; rw [if_pos rfl, if_neg (by omega), if_pos rfl]
      · rw [if_neg q2]
        by_cases q1 : t.1 = i
        · subst q1; rw [if_pos rfl, if_pos rfl]
        · rw [if_neg q1, if_neg q1, if_neg q2, List.append_nil]
    rw [this]
    exact ⟨done ++ [t], _, _, rfl, by rw [ed]; simp⟩
  · rintro Γ ⟨done, x, y, rfl, ed⟩
    rw [List.append_nil] at ed
    simp_all_arith []
    refine wpM_compMap toD ((List.range w.1).map fun p => coll p done) (fun l => tO (srt l)) (by simp_arith []) rfl (by rw [List.length_map, List.length_range]; omega) (fun l hl => ⟨_, _, by simp_arith [], by simp_arith [den_beside_all_e3, t_sorted l], by simp_arith []⟩) ?_
    have e : ((List.range w.1).map fun p => coll p done).map (fun l => tO (srt l)) = ((List.range w.1).map (nbs w)).map tO := by
      rw [List.map_map, List.map_map]
      refine List.map_congr_left fun p hp => ?_
      show tO (srt (coll p done)) = tO (nbs w p)
      rw [← ed, srt_coll g p]
    rw [e]
    simp_all_arith []
    rfl
/-- a web as a new thing -/
def wO (w : Web) : O := .tup [.sh (.int (w.1 : Int)), tO w.2]
theorem wO_erase (w : Web) : (wO w).erase = toD w := by
  show (O.tup [.sh (.int (w.1 : Int)), tO w.2]).erase = _
  rw [O.erase_tup, List.map_cons, List.map_cons, List.map_nil, O.erase_sh, tO_erase]; rfl
/-- the program's connectedness by a tree: each later place is tied to an earlier one, by some order -/
theorem Good.sub {w : Web} (g : Good w) {ts : List Tie} (h : ts.Sublist w.2) : Good (w.1, ts) :=
  ⟨g.lo, g.hi, Nat.le_trans h.length_le g.few, fun t ht => g.ok t (h.subset ht), g.srt.sublist h⟩
theorem zip_sub {α β : Type} : ∀ (l : List α) (m : List β), ((l.zip m).map fun p => p.1).Sublist l
  | [], m => by simp
  | a :: l, [] => by simp
  | a :: l, b :: m => by
    rw [List.zip_cons_cons, List.map_cons]
    exact (zip_sub l m).cons_cons a
/-- the law's web maker of the first stage -/
theorem web_2_good (c salt : Int) {most more : Nat} (h1 : 1 ≤ most) (h2 : most ≤ 40) (h3 : more ≤ 81) : ∃ w : Web, G_law_web_2 [.int c, .int salt, .int (most : Int), .int (more : Int)] = some (.ok (wO w)) ∧ Good w ∧ w.1 ≤ most := by
  obtain ⟨n, order, pairs, ts, e, n1, n2, dr, pl, _⟩ := law_web_2_ok c salt (most := most) (more := more) h1 (by omega) (by omega)
  exact ⟨(n, ts), e, dr.good n1 (by omega) (by omega), n2⟩
theorem cell_at_ok (ns : List Int) (k : Nat) : ∃ c : Int, G_law_cell_at [toD ns, .int (k : Int)] = some (.ok (.sh (.int c))) := by
  by_cases h : k < ns.length
  · refine ⟨ns[k], runF_ok ?_⟩
    unfold den_law_cell_at env0
    have e1 : decide ((k : Int) < (ns.length : Int)) = true := decide_eq_true (by omega)
    have e2 : ns[k]? = some ns[k] := List.getElem?_eq_getElem h
    simp_all_arith [e1, e2]
    rfl
  · refine ⟨0, runF_ok ?_⟩
    unfold den_law_cell_at env0
    have e1 : decide ((k : Int) < (ns.length : Int)) = false := decide_eq_false (by omega)
    simp_all_arith [e1]
    rfl
theorem any_web_ok (ns : List Int) (k salt : Nat) (hk : k < 1000) : ∃ w : Web, G_law_any_web [toD ns, .int (k : Int), .int (salt : Int)] = some (.ok (wO w)) ∧ Good w := by
  have key : ∃ r, G_law_any_web [toD ns, .int (k : Int), .int (salt : Int)] = some r ∧ ∃ w : Web, r = .ok (wO w) ∧ Good w := by
    refine runF_wp ?_
    unfold den_law_any_web env0
    obtain ⟨c1, e1⟩ := cell_at_ok ns (2 * k + 1)
    obtain ⟨c2, e2⟩ := cell_at_ok ns (2 * k)
    obtain ⟨f1, e3, hf1⟩ := numbers_ok c1 (salt + 1 : Nat) (sizes := [8, 4]) (fun m hm => by
      simp only [List.mem_cons, List.not_mem_nil, or_false] at hm
      rcases hm with rfl | rfl <;> exact ⟨by decide, log2_small (by decide)⟩) (by simp)
    obtain ⟨h0, hh0, hl0⟩ := hf1.get (i := 0) (m := 8) rfl
    obtain ⟨h1, hh1, hl1⟩ := hf1.get (i := 1) (m := 4) rfl
    have i0 : dIx (toD f1) (.int 0) = some (.int (h0 : Int)) := (t_ix f1 0).trans (by rw [hh0]; rfl)
    have i1 : dIx (toD f1) (.int 1) = some (.int (h1 : Int)) := (t_ix f1 1).trans (by rw [hh1]; rfl)
    have e3 : G_law_numbers [.int c1, .int ((salt + 1 : Nat) : Int), .list [.int 8, .int 4]] = some (.ok (tO f1)) := e3
    have hp : ∃ most more : Nat, 1 ≤ most ∧ most ≤ 40 ∧ more ≤ 81 ∧ dIx (.list [.tuple [.int 12, .int 8], .tuple [.int 40, .int 81]]) (.int (if (decide ((h0 : Int) = 7) && decide ((k : Int) % 4 = 0)) = true then 1 else 0)) = some (.tuple [.int (most : Int), .int (more : Int)]) := by
      cases decide ((h0 : Int) = 7) && decide ((k : Int) % 4 = 0)
      · exact ⟨12, 8, by decide, by decide, by decide, rfl⟩
      · exact ⟨40, 81, by decide, by decide, by decide, rfl⟩
    obtain ⟨most, more, m1, m2, m3, hp⟩ := hp
    obtain ⟨w, e4, g, _⟩ := web_2_good c2 salt (most := most) (more := more) m1 m2 m3
    have l3 := g.few
    have ml : dMul (.list [.int 4]) (.int (w.2.length : Int)) = some (toD (List.replicate w.2.length 4)) := by
      rw [x_mulL1 (by omega) (by omega), toD_list, List.map_replicate]; rfl
    have al : dAdd (.list [.int 8, .int 4]) (toD (List.replicate w.2.length 4)) = some (toD ([8, 4] ++ List.replicate w.2.length 4)) := t_add [8, 4] _ (by simp; omega)
    obtain ⟨f2, e5, hf2⟩ := numbers_ok c1 (salt + 1 : Nat) (sizes := [8, 4] ++ List.replicate w.2.length 4) (fun m hm => by
      simp only [List.mem_append, List.mem_cons, List.mem_replicate, List.not_mem_nil, or_false] at hm
      rcases hm with (rfl | rfl) | ⟨_, rfl⟩ <;> exact ⟨by decide, log2_small (by decide)⟩) (by simp; omega)
    have cd : DS.cutD f2 (some 2) none = f2.drop 2 := cut_from f2 2
    simp_all_arith [e1, e2, e3, e4, e5, i0, i1, hp, wO_erase, ml, al, cd]
    have zl : (w.2.zip (f2.drop 2)).length ≤ 16777216 := by rw [List.length_zip]; omega
    refine wpM_compTF toD (w.2.zip (f2.drop 2)) (fun p => decide (h1 ≤ p.2)) (fun p => p.1) (by simp_arith []) rfl zl (fun p hp => ⟨_, _, by simp_arith [], by simp_arith [den_law_any_web_c2, i1, show decide ((h1 : Int) ≤ (p.2 : Int)) = decide (h1 ≤ p.2) from decide_eq_decide.mpr (by omega)], fun _ => by simp_arith [], fun _ => ⟨_, by simp_arith [den_law_any_web_e1], by simp_arith []⟩⟩) ?_
    simp_all_arith []
    refine ⟨(w.1, ((w.2.zip (f2.drop 2)).filter fun p => decide (h1 ≤ p.2)).map fun p => p.1), rfl, g.sub ?_⟩
    have h1 : (((w.2.zip (f2.drop 2)).filter fun p => decide (h1 ≤ p.2)).map fun p => p.1).Sublist ((w.2.zip (f2.drop 2)).map fun p => p.1) := List.filter_sublist.map _
    exact h1.trans (zip_sub _ _)
  obtain ⟨r, e, w, rfl, g⟩ := key
  exact ⟨w, e, g⟩
theorem loose_ok {pool : O} (hp : Pool pool) {most more : Nat} (h1 : 1 ≤ most) (h2 : most ≤ 40) (h3 : more ≤ 81) : ∃ (w : Web) (pool' : O), G_law_loose pool [.int (most : Int), .int (more : Int)] = some (.sh (toD w), pool') ∧ Pool pool' ∧ Good w ∧ w.1 ≤ most := by
  have key : ∃ r o', G_law_loose pool [.int (most : Int), .int (more : Int)] = some (r, o') ∧ ∃ w : Web, r = .sh (toD w) ∧ Pool o' ∧ Good w ∧ w.1 ≤ most := by
    refine runM_wp ?_
    unfold den_law_loose envM
    obtain ⟨n, order, pairs, ts, p1, e1, hp1, n1, n2, dr, pl, _⟩ := law_web_3_ok hp (most := most) (more := more) h1 (by omega) (by omega)
    have g : Good (n, ts) := dr.good n1 (by omega) (by omega)
    have e1 : G_law_web_3 pool [.int (most : Int), .int (more : Int)] = some (wO (n, ts), p1) := e1
    have hn2 : ((n, ts) : Web).1 ≤ most := n2
    generalize ((n, ts) : Web) = w at *
    have l3 := g.few
    obtain ⟨f, p2, e2, hf, hp2⟩ := take_ok hp1 (many := 4) (by decide) (log2_small (by decide))
    have e2 : G_law_take p1 [.int 4] = some (.sh (.int (f : Int)), p2) := e2
    by_cases hc : f = 0
    · have c1 : decide ((f : Int) = 0) = true := decide_eq_true (by omega)
      simp_all_arith [e1, e2, c1, wO_erase]
      refine wpM_comp toD w.2 (fun rest acc Γ => ∃ (pl : O) (done : List Tie), Γ = [some pl, sN most, sN more, sN w.1, sD (toD w.2), none] ∧ acc = done.map shT ∧ (done ++ rest).Sublist w.2 ∧ Pool pl) rfl rfl ⟨p2, [], rfl, rfl, List.Sublist.refl _, hp2⟩ ?_ ?_
      · rintro t rest acc Γ ⟨pl, done, rfl, rfl, hs, hpl⟩
        have hdl : done.length < 1000 := by have := hs.length_le; rw [List.length_append, List.length_cons] at this; omega
        obtain ⟨f2, pl2, e3, hf2, hp3⟩ := take_ok hpl (many := 3) (by decide) (log2_small (by decide))
        have e3 : G_law_take pl [.int 3] = some (.sh (.int (f2 : Int)), pl2) := e3
        refine ⟨by rw [List.length_map]; omega, _, _, decide ((0 : Int) < (f2 : Int)), by simp_arith [], by simp_arith [den_law_loose_c2, e3], ?_⟩
        by_cases q : (0 : Int) < (f2 : Int)
        · exact .inr ⟨decide_eq_true q, shT t, _, by simp_arith [den_law_loose_e1, shT], pl2, done ++ [t], by simp_arith [], by rw [List.map_append]; rfl, by rw [List.append_assoc]; exact hs, hp3⟩
        · refine .inl ⟨decide_eq_false q, pl2, done, by simp_arith [], rfl, ?_, hp3⟩
          exact (List.Sublist.append (List.Sublist.refl done) (List.sublist_cons_self t rest)).trans hs
      · rintro l Γ ⟨pl, done, rfl, rfl, hs, hpl⟩
        rw [List.append_nil] at hs
        simp_all_arith []
        exact retM_rt (o' := pl) rfl ⟨(w.1, done), rfl, hpl, g.sub hs, hn2⟩
    · have c1 : decide ((f : Int) = 0) = false := decide_eq_false (by omega)
      simp_all_arith [e1, e2, c1, wO_erase]
      exact retM_rt (o' := p2) rfl ⟨w, rfl, hp2, g, hn2⟩
  obtain ⟨r, o', e, w, rfl, h⟩ := key
  exact ⟨w, o', e, h⟩
/-! ### texts -/
theorem s_assoc (a b c : Str) : a ++ b ++ c = a ++ (b ++ c) := by
  show (⟨(a.cps ++ b.cps) ++ c.cps⟩ : Str) = ⟨a.cps ++ (b.cps ++ c.cps)⟩
  rw [Array.append_assoc]
theorem s_nil (a : Str) : Str.empty ++ a = a := by
  show (⟨#[] ++ a.cps⟩ : Str) = a
  rw [Array.empty_append]
theorem s_len (a b : Str) : (a ++ b).length = a.length + b.length := by
  show (a.cps ++ b.cps).size = a.cps.size + b.cps.size
  rw [Array.size_append]
def num (i : Nat) : Str := Str.ofString (toString (i : Int))
theorem num_len0 : ∀ i : Nat, i < 100 → (num i).length ≤ 2 := by decide +kernel
theorem num_len {i : Nat} (h1 : i < 100) : (num i).length ≤ 2 := num_len0 i h1
theorem log_ok {i : Nat} (h1 : i < 1000000000000) : (i : Int).natAbs.log2 < 1920 := by
  by_cases hz : i = 0
  · subst hz; decide
  · have : (i : Int).natAbs = i := rfl
    rw [this]
    have h2 : i.log2 < 40 := (Nat.log2_lt hz).mpr (by omega)
    omega
theorem fmt_num {i : Nat} (h1 : i < 1000000000000) : dFmt (.int (i : Int)) = some (.str (num i)) := if_pos (log_ok h1)
theorem str_num {i : Nat} (h1 : i < 1000000000000) : bStr [.int (i : Int)] = some (.str (num i)) := if_pos (log_ok h1)
theorem cat_ok {a b : Str} (h : a.length + b.length ≤ 16777216) : catS a (.str b) = some (a ++ b) := if_pos (by rw [s_len]; exact h)
def tieS (t : Tie) : Str := num t.1 ++ "-" ++ num t.2
def webS (w : Web) : Str := Str.join " " (num w.1 :: w.2.map tieS)
theorem tieS_len {t : Tie} (h1 : t.1 < 100) (h2 : t.2 < 100) : (tieS t).length ≤ 5 := by
  unfold tieS
  rw [s_len, s_len]
  have h1 := num_len h1
  have h2 := num_len h2
  have h3 : ("-" : Str).length = 1 := rfl
  omega
theorem asStrs_map : ∀ zs : List Str, asStrs (zs.map .str) = some zs
  | [] => rfl
  | z :: zs => by rw [List.map_cons, asStrs, asStrs_map zs]; rfl
theorem sum_le {α : Type} {f : α → Nat} {m : Nat} : ∀ {l : List α}, (∀ a ∈ l, f a ≤ m) → (l.map f).sum ≤ l.length * m
  | [], _ => by simp
  | a :: l, h => by
    have h1 := h a List.mem_cons_self
    have h2 := sum_le (l := l) fun b hb => h b (List.mem_cons_of_mem _ hb)
    rw [List.map_cons, List.sum_cons, List.length_cons, Nat.succ_mul]
    omega
theorem t_join {a : Str} {zs : List Str} {m : Nat} (h : ∀ z ∈ zs, z.length ≤ m) (hl : zs.length * m + zs.length * a.length ≤ 16777216) : dJoin a (toD zs) = some (.str (Str.join a zs)) := by
  rw [toD_list, show (zs.map toD : List D) = zs.map .str from rfl]
  show (asStrs (zs.map .str)).bind (joinOk a) = _
  rw [asStrs_map]
  show joinOk a zs = _
  unfold joinOk
  have := sum_le (f := Str.length) h
  refine (if_pos ?_).trans ?_
  · show (zs.map Str.length).sum + _ ≤ _; omega
  · rw [TL.join_eq]
theorem join_len (a : Str) (m : Nat) : ∀ {zs : List Str}, (∀ z ∈ zs, z.length ≤ m) → (Str.join a zs).length ≤ zs.length * (m + a.length)
  | [], _ => Nat.zero_le _
  | z :: zs, h => by
    have h1 := h z List.mem_cons_self
    have h2 := join_len a m (zs := zs) fun y hy => h y (List.mem_cons_of_mem _ hy)
    rw [List.length_cons, Nat.succ_mul]
    cases zs with
    | nil => show z.length ≤ _; omega
    | cons y r =>
      show (z ++ a ++ Str.join a (y :: r)).length ≤ _
      rw [s_len, s_len]
      omega
theorem webS_len {w : Web} (g : Good w) : (webS w).length ≤ 1000 := by
  have l2 := g.hi
  have l3 := g.few
  have := join_len " " 5 (zs := num w.1 :: w.2.map tieS) (fun z hz => by
    rcases List.mem_cons.mp hz with rfl | hz
    · have := num_len (i := w.1) (by omega); omega
    · obtain ⟨t, ht, rfl⟩ := List.mem_map.mp hz
      have := g.ok t ht
      exact tieS_len (by omega) (by omega))
  rw [List.length_cons, List.length_map, show (" " : Str).length = 1 from rfl] at this
  show (Str.join " " (num w.1 :: w.2.map tieS)).length ≤ 1000
  omega
/-! ### written -/
theorem written_good {w : Web} (g : Good w) : G_written [toD w] = some (.ok (.sh (.str (webS w)))) := by
  have l2 := g.hi
  have l3 := g.few
  refine runF_ok ?_
  unfold den_written env0
  have hn := num_len (i := w.1) (by omega)
  simp_all_arith [str_num]
  refine wpM_compT toD w.2 tieS (by simp_arith []) rfl (by omega) (fun t ht => ?_) ?_
  · have h := g.ok t ht
    have l1 := num_len (i := t.1) (by omega)
    have l2 := num_len (i := t.2) (by omega)
    have l3 : ("-" : Str).length = 1 := rfl
    have c1 : catS Str.empty (.str (num t.1)) = some (num t.1) := by rw [cat_ok (by show 0 + _ ≤ _; omega), s_nil]
    have c2 : catS (num t.1) (.str "-") = some (num t.1 ++ "-") := cat_ok (by omega)
    have c3 : catS (num t.1 ++ "-") (.str (num t.2)) = some (tieS t) := cat_ok (by rw [s_len]; omega)
    exact ⟨_, _, by simp_arith [], by simp_arith [den_written_e1, fmt_num, c1, c2, c3], by simp_arith []⟩
  have hj : dJoin " " (toD (num w.1 :: w.2.map tieS)) = some (.str (webS w)) := by
    refine t_join (m := 5) (fun z hz => ?_) ?_
    · rcases List.mem_cons.mp hz with rfl | hz
      · omega
      · obtain ⟨t, ht, rfl⟩ := List.mem_map.mp hz
        have := g.ok t ht
        exact tieS_len (by omega) (by omega)
    · rw [List.length_cons, List.length_map, show (" " : Str).length = 1 from rfl]
      omega
  have ha : dAdd (.list [.str (num w.1)]) (toD (w.2.map tieS)) = some (toD (num w.1 :: w.2.map tieS)) := t_add [num w.1] (w.2.map tieS) (by rw [List.length_map]; show 1 + _ ≤ _; omega)
  simp_all_arith [ha, hj]
  rfl
theorem show_web_good {w : Web} (g : Good w) : G_show_web [toD w] = some (.ok (.sh (.str (webS w)))) := by
  refine runF_ok ?_
  unfold den_show_web env0
  simp_all_arith [look_at_web_good g, written_good g]
  rfl
theorem look_at_webs_good {ws : List Web} (h : ∀ w ∈ ws, Good w) (hl : ws.length ≤ 12) : G_look_at_webs [toD ws] = some (.ok (.sh .none)) := by
  refine runF_ok ?_
  unfold den_look_at_webs env0
  have e3 : decide ((12 : Int) < (ws.length : Int)) = false := decide_eq_false (by omega)
  simp_all_arith [e3, t_enum]
  refine wp_forE _ ws.zipIdx (fun rest Γ => ∃ (k : Nat) (l : List Web) (x y : Option O), rest = l.zipIdx k ∧ Γ = [sD (toD ws), x, y] ∧ ∀ w ∈ l, Good w) rfl ⟨0, ws, _, _, rfl, rfl, h⟩ ?_ ?_
  · rintro x rest Γ ⟨k, l, x1, x2, e, rfl, hg⟩
    cases l with
    | nil => cases e
    | cons w l =>
      cases e
      have e1 := look_at_web_good (hg w List.mem_cons_self)
      refine ⟨_, by simp_arith [], ?_⟩
      unfold den_look_at_webs_b1
      simp_all_arith [e1]
      exact ⟨k + 1, l, _, _, rfl, rfl, fun w hw => hg w (List.mem_cons_of_mem _ hw)⟩
  · rintro Γ ⟨k, l, x1, x2, e, rfl, hg⟩
    simp_all_arith []
    rfl
def websS (ws : List Web) : Str := Str.join " * " (ws.map webS)
theorem all_written_good {ws : List Web} (h : ∀ w ∈ ws, Good w) (hl : ws.length ≤ 12) (h0 : ws ≠ []) : G_all_written [toD ws] = some (.ok (.sh (.str (websS ws)))) := by
  refine runF_ok ?_
  unfold den_all_written env0
  have e0 : decide ((ws.length : Int) = 0) = false := decide_eq_false fun q => h0 (List.length_eq_zero_iff.mp (by omega))
  simp_all_arith [e0]
  refine wpM_compT toD ws webS (by simp_arith []) rfl (by omega) (fun w hw => ⟨_, _, by simp_arith [], by simp_arith [den_all_written_e1, written_good (h w hw)], by simp_arith []⟩) ?_
  have hj : dJoin " * " (toD (ws.map webS)) = some (.str (websS ws)) := by
    refine t_join (m := 1000) (fun z hz => ?_) ?_
    · obtain ⟨w, hw, rfl⟩ := List.mem_map.mp hz
      exact webS_len (h w hw)
    · rw [List.length_map, show (" * " : Str).length = 3 from rfl]
      omega
  simp_all_arith [hj]
  rfl
theorem all_written_nil : G_all_written [.list []] = some (.ok (.sh (.str "none"))) := by
  refine runF_ok ?_
  unfold den_all_written env0
  simp_all_arith [Int.cast_ofNat_Int, decide_true]
  rfl
theorem show_webs_good {ws : List Web} (h : ∀ w ∈ ws, Good w) (hl : ws.length ≤ 12) (h0 : ws ≠ []) : G_show_webs [toD ws] = some (.ok (.sh (.str (websS ws)))) := by
  refine runF_ok ?_
  unfold den_show_webs env0
  simp_all_arith [look_at_webs_good h hl, all_written_good h hl h0]
  rfl
theorem show_webs_nil : G_show_webs [.list []] = some (.ok (.sh (.str "none"))) := by
  have e : G_look_at_webs [.list []] = some (.ok (.sh .none)) := look_at_webs_good (ws := []) (fun _ h => by cases h) (by decide)
  refine runF_ok ?_
  unfold den_show_webs env0
  simp_all_arith [e, all_written_nil]
  rfl
/-! ### plain signs -/
def Asc (x : Str) : Prop := ∀ c ∈ x.cps.toList, c < 128
theorem Asc.app {a b : Str} (ha : Asc a) (hb : Asc b) : Asc (a ++ b) := by
  intro c hc
  have : c ∈ (a.cps ++ b.cps).toList := hc
  rw [Array.toList_append] at this
  rcases List.mem_append.mp this with h | h
  · exact ha c h
  · exact hb c h
theorem asc_join {s : Str} (hs : Asc s) : ∀ {zs : List Str}, (∀ z ∈ zs, Asc z) → Asc (Str.join s zs)
  | [], _ => fun c hc => by cases hc
  | [z], h => h z List.mem_cons_self
  | z :: y :: r, h => by
    show Asc (z ++ s ++ Str.join s (y :: r))
    exact ((h z List.mem_cons_self).app hs).app (asc_join hs fun u hu => h u (List.mem_cons_of_mem _ hu))
theorem asc_num0 : ∀ i : Nat, i < 100 → ((num i).cps.toList.all fun c => decide (c < 128)) = true := by decide +kernel
theorem asc_num {i : Nat} (h : i < 100) : Asc (num i) := fun c hc => of_decide_eq_true (List.all_eq_true.mp (asc_num0 i h) c hc)
theorem asc_of {x : Str} (h : (x.cps.toList.all fun c => decide (c < 128)) = true) : Asc x := fun c hc => of_decide_eq_true (List.all_eq_true.mp h c hc)
theorem asc_tieS {t : Tie} (h1 : t.1 < 100) (h2 : t.2 < 100) : Asc (tieS t) := ((asc_num h1).app (asc_of (by decide +kernel))).app (asc_num h2)
theorem asc_webS {w : Web} (g : Good w) : Asc (webS w) := by
  have l2 := g.hi
  refine asc_join (asc_of (by decide +kernel)) fun z hz => ?_
  rcases List.mem_cons.mp hz with rfl | hz
  · exact asc_num (by omega)
  · obtain ⟨t, ht, rfl⟩ := List.mem_map.mp hz
    have := g.ok t ht
    exact asc_tieS (by omega) (by omega)
theorem asc_websS {ws : List Web} (h : ∀ w ∈ ws, Good w) : Asc (websS ws) := by
  refine asc_join (asc_of (by decide +kernel)) fun z hz => ?_
  obtain ⟨w, hw, rfl⟩ := List.mem_map.mp hz
  exact asc_webS (h w hw)
theorem sh_str {x : Str} {n : Nat} (h : Asc x) (hn : 10 * x.length + 2 ≤ n) : Sh n (.str x) :=
  ⟨rfl, Nat.le_trans (StrLaws.reprText_len x fun c hc => Nat.lt_of_lt_of_le (h c hc) (by decide)) hn⟩
theorem repr_str {x : Str} (h : Asc x) (hn : x.length ≤ 1000000) : bRepr [.str x] = some (.str (PyData.str x).shown) := t_repr x (sh_str h (Nat.le_refl _)) (by omega)
/-! ### rows and their numbers -/
def plc (ws : List Web) : Nat := ws.foldl (fun a w => a * w.1) 1
def numZ (z : List (Nat × Web)) : Nat := z.foldl (fun a p => a * p.2.1 + p.1) 0
def rno (ws : List Web) (r : List Nat) : Nat := numZ (r.zip ws)
def rowR : List Web → Nat → List Nat
  | [], _ => []
  | w :: t, n => n % w.1 :: rowR t (n / w.1)
def rowN (ws : List Web) (n : Nat) : List Nat := (rowR ws.reverse n).reverse
structure Row (ws : List Web) (r : List Nat) : Prop where
  len : r.length = ws.length
  ok : ∀ p ∈ r.zip ws, p.1 < p.2.1
theorem rev_ind {α : Type} {P : List α → Prop} (h0 : P []) (h1 : ∀ l a, P l → P (l ++ [a])) (l : List α) : P l := by
  rw [← List.reverse_reverse l]
  induction l.reverse with
  | nil => exact h0
  | cons a l ih => rw [List.reverse_cons]; exact h1 _ _ ih
theorem numZ_ok (z : List (Nat × Web)) : (∀ p ∈ z, p.1 < p.2.1) → rowR (z.map (·.2)).reverse (numZ z) = (z.map (·.1)).reverse ∧ numZ z < plc (z.map (·.2)) := by
  refine rev_ind (P := fun z => (∀ p ∈ z, p.1 < p.2.1) → rowR (z.map (·.2)).reverse (numZ z) = (z.map (·.1)).reverse ∧ numZ z < plc (z.map (·.2))) ?_ ?_ z
  · intro _
    exact ⟨rfl, Nat.one_pos⟩
  · intro z p ih h
    obtain ⟨i1, i2⟩ := ih fun q hq => h q (List.mem_append.mpr (.inl hq))
    have hp := h p (List.mem_append.mpr (.inr (List.mem_singleton.mpr rfl)))
    have e1 : numZ (z ++ [p]) = numZ z * p.2.1 + p.1 := by unfold numZ; rw [List.foldl_append]; rfl
    have e2 : plc ((z ++ [p]).map (·.2)) = plc (z.map (·.2)) * p.2.1 := by unfold plc; rw [List.map_append, List.foldl_append]; rfl
    have p0 : 0 < p.2.1 := by omega
    rw [List.map_append, List.map_append, List.reverse_append, List.reverse_append, e1]
    refine ⟨?_, ?_⟩
    · show _ :: _ = p.1 :: _
      rw [show (numZ z * p.2.1 + p.1) % p.2.1 = p.1 by rw [Nat.add_comm, Nat.add_mul_mod_self_right, Nat.mod_eq_of_lt hp], show (numZ z * p.2.1 + p.1) / p.2.1 = numZ z by rw [Nat.add_comm, Nat.add_mul_div_right _ _ p0, Nat.div_eq_of_lt hp, Nat.zero_add]]
      exact congrArg _ i1
    · rw [← List.map_append, e2]
      have : (numZ z + 1) * p.2.1 ≤ plc (z.map (·.2)) * p.2.1 := Nat.mul_le_mul_right _ i2
      rw [Nat.add_mul] at this
      omega
theorem zip_snd {r : List Nat} {ws : List Web} (h : r.length = ws.length) : (r.zip ws).map (·.2) = ws := List.map_snd_zip (by omega)
theorem zip_fst {r : List Nat} {ws : List Web} (h : r.length = ws.length) : (r.zip ws).map (·.1) = r := List.map_fst_zip (by omega)
theorem Row.rno_lt {ws : List Web} {r : List Nat} (h : Row ws r) : rno ws r < plc ws := by
  have := (numZ_ok _ h.ok).2
  rwa [zip_snd h.len] at this
theorem Row.back {ws : List Web} {r : List Nat} (h : Row ws r) : rowN ws (rno ws r) = r := by
  have := (numZ_ok _ h.ok).1
  rw [zip_snd h.len, zip_fst h.len] at this
  unfold rowN rno
  rw [this, List.reverse_reverse]
theorem plc_le {ws : List Web} (h : ∀ w ∈ ws, w.1 ≤ 40) (hl : ws.length ≤ 12) : plc ws ≤ 40 ^ 12 := by
  have : ∀ (ws : List Web) (a : Nat), (∀ w ∈ ws, w.1 ≤ 40) → ws.foldl (fun a w => a * w.1) a ≤ a * 40 ^ ws.length := by
    intro ws
    induction ws with
    | nil => intro a _; exact Nat.le_of_eq (Nat.mul_one a).symm
    | cons w t ih =>
      intro a h
      refine Nat.le_trans (ih _ fun w hw => h w (List.mem_cons_of_mem _ hw)) ?_
      rw [List.length_cons, Nat.pow_succ, Nat.mul_comm (40 ^ t.length) 40, ← Nat.mul_assoc]
      exact Nat.mul_le_mul_right _ (Nat.mul_le_mul_left _ (h w (List.mem_cons_self ..)))
  have := this ws 1 h
  rw [Nat.one_mul] at this
  exact Nat.le_trans this (Nat.pow_le_pow_right (by decide) hl)
/-! ### the walks -/
theorem places_in_ok {ws : List Web} (h : ∀ w ∈ ws, Good w) : G_places_in [toD ws] = some (.ok (nO (plc ws))) := by
  refine runF_ok ?_
  unfold den_places_in env0
  simp_all_arith []
  refine wp_forE toD ws (fun rest Γ => ∃ (n : Nat) (x y : Option O), Γ = [sD (toD ws), sN n, x, y] ∧ rest.foldl (fun a w => a * w.1) n = plc ws ∧ ∀ w ∈ rest, Good w) rfl ⟨1, _, _, rfl, rfl, h⟩ ?_ ?_
  · rintro w rest Γ ⟨n, x, y, rfl, e, hg⟩
    have g := hg w (List.mem_cons_self ..)
    have g1 := g.hi
    have m1 : dMul (.int (n : Int)) (.int (w.1 : Int)) = some (.int ((n * w.1 : Nat) : Int)) := x_mulN _ _ (by omega)
    refine ⟨_, by simp_arith [], ?_⟩
    unfold den_places_in_b1
    simp_all_arith [m1]
    exact ⟨_, _, _, rfl, e, fun w hw => hg w (List.mem_cons_of_mem _ hw)⟩
  · rintro Γ ⟨n, x, y, rfl, e, _⟩
    rw [List.foldl_nil] at e
    subst e
    simp_all_arith []
    rfl
theorem number_in_ok {ws : List Web} (h : ∀ w ∈ ws, Good w) (r : List Nat) : G_number_in [toD ws, toD r] = some (.ok (nO (rno ws r))) := by
  refine runF_ok ?_
  unfold den_number_in env0
  simp_all_arith []
  refine wp_forE toD (r.zip ws) (fun rest Γ => ∃ (n : Nat) (x y : Option O), Γ = [sD (toD ws), sD (toD r), sN n, x, y] ∧ rest.foldl (fun a p => a * p.2.1 + p.1) n = rno ws r ∧ ∀ p ∈ rest, p.2 ∈ ws) rfl ⟨0, _, _, rfl, rfl, fun p hp => (List.of_mem_zip hp).2⟩ ?_ ?_
  · rintro p rest Γ ⟨n, x, y, rfl, e, hg⟩
    have g := h _ (hg p (List.mem_cons_self ..))
    have g1 := g.hi
    have m1 : dMul (.int (n : Int)) (.int (p.2.1 : Int)) = some (.int ((n * p.2.1 : Nat) : Int)) := x_mulN _ _ (by omega)
    refine ⟨_, by simp_arith [], ?_⟩
    unfold den_number_in_b1
    simp_all_arith [m1]
    exact ⟨_, _, _, rfl, e, fun p hp => hg p (List.mem_cons_of_mem _ hp)⟩
  · rintro Γ ⟨n, x, y, rfl, e, _⟩
    rw [List.foldl_nil] at e
    subst e
    simp_all_arith []
    rfl
theorem row_in_ok {ws : List Web} (h : ∀ w ∈ ws, Good w) (hl : ws.length ≤ 1000) (n : Nat) : G_row_in [toD ws, nD n] = some (.ok (tO (rowN ws n))) := by
  refine runF_ok ?_
  unfold den_row_in env0
  simp_all_arith []
  refine wp_forE toD ws.reverse (fun rest Γ => ∃ (m : Nat) (done : List Nat) (x y : Option O), Γ = [sD (toD ws), sN m, some (tO done), x, y] ∧ done ++ rowR rest m = rowR ws.reverse n ∧ done.length + rest.length ≤ 1000 ∧ ∀ w ∈ rest, Good w) rfl ⟨n, [], _, _, rfl, rfl, by rw [List.length_reverse]; simpa using hl, fun w hw => h w (List.mem_reverse.mp hw)⟩ ?_ ?_
  · rintro w rest Γ ⟨m, done, x, y, rfl, e, hd, hg⟩
    have g := hg w (List.mem_cons_self ..)
    have g1 := g.hi
    have g2 := g.lo
    rw [List.length_cons] at hd
    have m1 : dMod (.int (m : Int)) (.int (w.1 : Int)) = some (.int ((m % w.1 : Nat) : Int)) := x_modN _ _ (by omega)
    have d1 : dDiv (.int (m : Int)) (.int (w.1 : Int)) = some (.int ((m / w.1 : Nat) : Int)) := x_divN _ _ (by omega) (by omega)
    refine ⟨_, by simp_arith [], ?_⟩
    unfold den_row_in_b1
    simp_all_arith [m1, d1]
    exact ⟨m / w.1, done ++ [m % w.1], _, _, rfl, by rw [← e, List.append_assoc]; rfl, by rw [List.length_append]; show done.length + 1 + _ ≤ _; omega, fun p hp => hg p (List.mem_cons_of_mem _ hp)⟩
  · rintro Γ ⟨m, done, x, y, rfl, e, _, _⟩
    rw [show rowR [] m = [] from rfl, List.append_nil] at e
    subst e
    simp_all_arith []
    rfl
/-! ### what is a row -/
def wholeB : D → Bool
  | .int _ => true
  | _ => false
theorem is_whole_any (d : D) : G_is_whole [d] = some (.ok (.sh (.bool (wholeB d)))) := by
  cases d <;> simp [G_is_whole, den_is_whole, run_F, env0, PyData.isInt, PyData.isBool, x_notB, wholeB]
def cellB (d : D) (w : Web) : Bool := match d with
  | .int i => decide (0 ≤ i) && decide (i < (w.1 : Int))
  | _ => false
def isRow (ws : List Web) (d : D) : Bool := match d with
  | .list cs => decide (cs.length = ws.length) && (cs.zip ws).all fun p => cellB p.1 p.2
  | _ => false
theorem whole_cell {d : D} {w : Web} (h : wholeB d = false) : cellB d w = false := by cases d <;> first | rfl | cases h
theorem row_cell (a b : Option O) (d : D) (w : Web) : den_is_row_in_e1 [a, b, sD d, sD (toD w)] = some (.ok (.sh (.bool (cellB d w))), [a, b, sD d, sD (toD w)]) := by
  unfold den_is_row_in_e1 chainM
  cases hw : wholeB d with
  | false => simp_arith [is_whole_any, hw, whole_cell hw]
  | true =>
    cases d <;> try cases hw
    rename_i i
    by_cases h1 : 0 ≤ i <;> by_cases h2 : i < (w.1 : Int) <;> simp_arith [is_whole_any, wholeB, h1, h2, cellB]
theorem zip2_map (cs : List D) (ws : List Web) : zipD2 cs (ws.map toD) = (cs.zip ws).map fun p => .tuple [p.1, toD p.2] := by
  induction cs generalizing ws with
  | nil => rfl
  | cons c cs ih =>
    cases ws with
    | nil => rfl
    | cons w ws => rw [List.map_cons, zipD2, ih]; rfl
theorem er_bool {α : Type} (f : α → Bool) (l : List α) : (O.lst (l.map fun p => O.sh (.bool (f p)))).erase = toD (l.map f) := by
  rw [O.erase_lst, List.map_map, toD_list, List.map_map]
  congr 1
theorem isRow_list (ws : List Web) (cs : List D) : isRow ws (.list cs) = (decide (cs.length = ws.length) && (cs.zip ws).all fun p => cellB p.1 p.2) := rfl
theorem is_row_in_ok (ws : List Web) (hl : ws.length ≤ 1000) (d : D) : G_is_row_in [toD ws, d] = some (.ok (.sh (.bool (isRow ws d)))) := by
  refine runF_ok ?_
  unfold den_is_row_in env0
  by_cases hd : ∃ cs, d = .list cs
  · obtain ⟨cs, rfl⟩ := hd
    by_cases hc : cs.length = ws.length
    · have e1 : dNe (.int (cs.length : Int)) (.int (ws.length : Int)) = some (.bool false) := by rw [x_neI]; simp [hc]
      have z : zipD [.list cs, toD ws] = some ((cs.zip ws).map fun p => .tuple [p.1, toD p.2]) := congrArg some (zip2_map cs ws)
      have zl : (cs.zip ws).length ≤ 1000 := by rw [List.length_zip]; omega
      simp_all_arith [e1, hc]
      refine wpM_compMap (fun p : D × Web => .tuple [p.1, toD p.2]) (cs.zip ws) (fun p => O.sh (.bool (cellB p.1 p.2))) (by simp_arith [z]) rfl (by omega) (fun p hp => ⟨_, _, by simp_arith [], row_cell _ _ _ _, by simp_arith []⟩) ?_
      have e2 : isRow ws (.list cs) = ((cs.zip ws).map fun p => cellB p.1 p.2).all id := by
        rw [isRow_list, decide_eq_true hc, Bool.true_and, List.all_map]; rfl
      have e3 := t_all ((cs.zip ws).map fun p => cellB p.1 p.2) (by rw [List.length_map]; omega)
      simp_all_arith [er_bool, e3]
      rw [e2]
    · have e1 : dNe (.int (cs.length : Int)) (.int (ws.length : Int)) = some (.bool true) := by rw [x_neI]; simp; omega
      have e2 : isRow ws (.list cs) = false := by rw [isRow_list, decide_eq_false hc]; rfl
      simp_all_arith [e1, e2]
      rw [e2]
  · have e1 : PyData.isList d = false := by cases d <;> first | rfl | exact absurd ⟨_, rfl⟩ hd
    have e2 : isRow ws d = false := by cases d <;> first | rfl | exact absurd ⟨_, rfl⟩ hd
    simp_all_arith [e1, e2]
    rw [e2]
theorem isRow_toD {ws : List Web} {r : List Nat} (h : Row ws r) : isRow ws (toD r) = true := by
  rw [show (toD r : D) = .list (r.map toD) from rfl, isRow_list, List.length_map, decide_eq_true h.len, Bool.true_and, List.all_eq_true]
  intro p hp
  rw [List.zip_map_left] at hp
  obtain ⟨q, hq, rfl⟩ := List.mem_map.mp hp
  have := h.ok q hq
  show (decide ((0 : Int) ≤ ((q.1 : Nat) : Int)) && decide (((q.1 : Nat) : Int) < (q.2.1 : Int))) = true
  rw [decide_eq_true (by omega), decide_eq_true (by omega)]; rfl
theorem look_at_row_ok {ws : List Web} (hl : ws.length ≤ 12) {r : List Nat} (h : Row ws r) : G_look_at_row [toD ws, toD r] = some (.ok (.sh .none)) := by
  refine runF_ok ?_
  unfold den_look_at_row env0
  have e := is_row_in_ok ws (by omega) (toD r)
  rw [isRow_toD h] at e
  simp_all_arith [e]
  rfl
theorem number_of_ok {ws : List Web} (hw : ∀ w ∈ ws, Good w) (hl : ws.length ≤ 12) {r : List Nat} (h : Row ws r) : G_number_of [toD ws, toD r] = some (.ok (nO (rno ws r))) := by
  refine runF_ok ?_
  unfold den_number_of env0
  simp_all_arith [look_at_webs_good hw hl, look_at_row_ok hl h, number_in_ok hw r]
  rfl
theorem places_of_ok {ws : List Web} (hw : ∀ w ∈ ws, Good w) (hl : ws.length ≤ 12) : G_places_of [toD ws] = some (.ok (nO (plc ws))) := by
  refine runF_ok ?_
  unfold den_places_of env0
  simp_all_arith [look_at_webs_good hw hl, places_in_ok hw]
  rfl
theorem row_of_ok {ws : List Web} (hw : ∀ w ∈ ws, Good w) (hl : ws.length ≤ 12) {n : Nat} (h : n < plc ws) : G_row_of [toD ws, nD n] = some (.ok (tO (rowN ws n))) := by
  refine runF_ok ?_
  unfold den_row_of env0
  have c1 : ((0 : Int) ≤ (n : Int)) = True := eq_true (by omega)
  have c2 : ((n : Int) < (plc ws : Int)) = True := eq_true (by omega)
  unfold chainM
  simp_all_arith [look_at_webs_good hw hl, is_whole_int, places_in_ok hw, row_in_ok hw (by omega) n, c1, c2]
  rfl
theorem is_row_ok {ws : List Web} (hw : ∀ w ∈ ws, Good w) (hl : ws.length ≤ 12) (d : D) : G_is_row [toD ws, d] = some (.ok (.sh (.bool (isRow ws d)))) := by
  refine runF_ok ?_
  unfold den_is_row env0
  simp_all_arith [look_at_webs_good hw hl, is_row_in_ok ws (by omega) d]
  rfl
theorem zip_all {cs : List D} {ws : List Web} (h : cs.length = ws.length) {P : D → Web → Bool} : ((List.range ws.length).filter fun k => !P (cs.getD k .none) (ws.getD k (0, []))) = [] ↔ (cs.zip ws).all (fun p => P p.1 p.2) = true := by
  rw [List.filter_eq_nil_iff, List.all_eq_true]
  constructor
  · intro q p hp
    obtain ⟨i, hi, rfl⟩ := List.mem_iff_getElem.mp hp
    have hi' : i < ws.length := by rw [List.length_zip] at hi; omega
    have := q i (List.mem_range.mpr hi')
    rw [Bool.not_eq_true, Bool.not_eq_false'] at this
    rw [List.getElem_zip]
    simpa [hi', h] using this
  · intro q k hk
    rw [List.mem_range] at hk
    have hz : k < (cs.zip ws).length := by rw [List.length_zip]; omega
    have := q _ (List.getElem_mem hz)
    rw [List.getElem_zip] at this
    simp [hk, h] at this ⊢
    exact this
theorem law_is_row_ok (ws : List Web) (hl : ws.length ≤ 1000) (d : D) : G_law_is_row [toD ws, d] = some (.ok (.sh (.bool (isRow ws d)))) := by
  refine runF_ok ?_
  unfold den_law_is_row env0
  by_cases hd : ∃ cs, d = .list cs
  · obtain ⟨cs, rfl⟩ := hd
    by_cases hc : cs.length = ws.length
    · have e1 : dNe (.int (cs.length : Int)) (.int (ws.length : Int)) = some (.bool false) := by rw [x_neI]; simp [hc]
      simp_all_arith [e1, hc]
      refine wpM_compTF toD (List.range ws.length) (fun k => !cellB (cs.getD k .none) (ws.getD k (0, []))) (fun k => k) (by simp_arith []) rfl (by rw [List.length_range]; omega) (fun k hk => ?_) ?_
      · rw [List.mem_range] at hk
        have f1 : cs[k]? = some (cs.getD k .none) := by simp [hk, hc]
        have f2 : ws[k]? = some (ws.getD k (0, [])) := get?_getD hk
        generalize cs.getD k .none = c at *
        generalize ws.getD k (0, []) = w at *
        have hc2 : den_law_is_row_c2 [sD (toD ws), sD (.list cs), sN k] = some (.ok (!cellB c w), [sD (toD ws), sD (.list cs), sN k]) := by
          unfold den_law_is_row_c2 chainM
          cases hw : wholeB c with
          | false => simp_arith [f1, f2, is_whole_any, hw, whole_cell hw]
          | true =>
            cases c <;> try cases hw
            rename_i i
            by_cases h1 : 0 ≤ i <;> by_cases h2 : i < (w.1 : Int) <;> simp_arith [f1, f2, is_whole_any, wholeB, h1, h2, cellB]
        exact ⟨_, _, by simp_arith [], hc2, fun _ => by simp_arith [], fun _ => ⟨_, by simp_arith [den_law_is_row_e1], by simp_arith []⟩⟩
      · have q := zip_all (P := cellB) hc
        generalize List.filter _ _ = l at *
        have e2 : dEq (toD l) (.list []) = some (.bool (decide (l = []))) := t_eq l []
        have e3 : isRow ws (.list cs) = decide (l = []) := by
          rw [isRow_list, decide_eq_true hc, Bool.true_and, Bool.eq_iff_iff, ← q, decide_eq_true_eq]
        rw [List.map_id']
        simp_all_arith [e2]
        rw [e3]
    · have e1 : dNe (.int (cs.length : Int)) (.int (ws.length : Int)) = some (.bool true) := by rw [x_neI]; simp; omega
      have e2 : isRow ws (.list cs) = false := by rw [isRow_list, decide_eq_false hc]; rfl
      simp_all_arith [e1, e2]
      rw [e2]
  · have e1 : PyData.isList d = false := by cases d <;> first | rfl | exact absurd ⟨_, rfl⟩ hd
    have e2 : isRow ws d = false := by cases d <;> first | rfl | exact absurd ⟨_, rfl⟩ hd
    simp_all_arith [e1, e2]
    rw [e2]
theorem er_wO (ws : List Web) : (O.lst (ws.map fun w => wO w)).erase = toD ws := by
  rw [O.erase_lst, List.map_map, toD_list]
  refine congrArg _ (List.map_congr_left fun w _ => ?_)
  exact wO_erase w
theorem law_copied_ok {ws : List Web} (hl : ws.length ≤ 1000) : ∃ o, G_law_copied [toD ws] = some (.ok o) ∧ o.erase = toD ws := by
  have key : ∃ r, G_law_copied [toD ws] = some r ∧ ∃ o, r = .ok o ∧ o.erase = toD ws := by
    refine runF_wp ?_
    unfold den_law_copied env0
    simp_all_arith []
    refine wpM_compMap toD ws (fun w => wO w) (by simp_arith []) rfl (by omega) (fun w hw => ⟨_, _, by simp_arith [], by simp_arith [den_law_copied_e1, wO], by simp_arith []⟩) ?_
    simp_all_arith []
    exact ⟨_, rfl, er_wO ws⟩
  obtain ⟨r, e, o, rfl, h⟩ := key
  exact ⟨o, e, h⟩
theorem law_row_ok {pool : O} (hp : Pool pool) {ws : List Web} (hw : ∀ w ∈ ws, Good w) (hl : ws.length ≤ 1000) : ∃ (r : List Nat) (pool' : O), G_law_row pool [toD ws] = some (tO r, pool') ∧ Pool pool' ∧ Row ws r := by
  have key : ∃ o o', G_law_row pool [toD ws] = some (o, o') ∧ ∃ r, o = tO r ∧ Pool o' ∧ Row ws r := by
    refine runM_wp ?_
    unfold den_law_row envM
    simp_all_arith []
    refine wpM_comp toD ws (fun rest acc Γ => ∃ (pl : O) (done : List Nat) (ws1 : List Web), Γ = [some pl, sD (toD ws), none, none] ∧ acc = done.map shT ∧ ws1 ++ rest = ws ∧ Row ws1 done ∧ Pool pl) rfl rfl ⟨pool, [], [], rfl, rfl, rfl, ⟨rfl, fun p hp => by cases hp⟩, hp⟩ ?_ ?_
    · rintro w rest acc Γ ⟨pl, done, ws1, rfl, rfl, e, hr, hpl⟩
      have hwm : w ∈ ws := by rw [← e]; simp
      have g := hw w hwm
      have g1 := g.lo
      have g2 := g.hi
      obtain ⟨f, pl2, e3, hf, hp3⟩ := take_ok hpl (many := w.1) (by omega) (log2_small (by omega))
      have hlen : ws1.length < 1000 := by have := congrArg List.length e; rw [List.length_append, List.length_cons] at this; omega
      refine ⟨by rw [List.length_map, hr.len]; omega, _, _, true, by simp_arith [], rfl, .inr ⟨rfl, shT f, _, by simp_arith [den_law_row_e1, e3, shT], pl2, done ++ [f], ws1 ++ [w], by simp_arith [], by rw [List.map_append]; rfl, by rw [List.append_assoc]; exact e, ⟨by rw [List.length_append, List.length_append, hr.len]; rfl, fun p hp => ?_⟩, hp3⟩⟩
      rw [List.zip_append hr.len] at hp
      rcases List.mem_append.mp hp with q | q
      · exact hr.ok p q
      · rw [List.mem_singleton.mp q]; exact hf
    · rintro l Γ ⟨pl, done, ws1, rfl, rfl, e, hr, hpl⟩
      rw [List.append_nil] at e
      subst e
      simp_all_arith []
      exact retM_rt (o' := pl) rfl ⟨done, rfl, hpl, hr⟩
  obtain ⟨r, o', e, w, rfl, h⟩ := key
  exact ⟨w, o', e, h⟩
theorem law_some_webs_ok {pool : O} (hp : Pool pool) : ∃ (ws : List Web) (o pool' : O), G_law_some_webs pool [] = some (o, pool') ∧ o.erase = toD ws ∧ Pool pool' ∧ (∀ w ∈ ws, Good w) ∧ ws.length ≤ 12 := by
  have key : ∃ o o', G_law_some_webs pool [] = some (o, o') ∧ ∃ ws : List Web, o.erase = toD ws ∧ Pool o' ∧ (∀ w ∈ ws, Good w) ∧ ws.length ≤ 12 := by
    refine runM_wp ?_
    unfold den_law_some_webs envM
    obtain ⟨f, p1, e1, hf, hp1⟩ := take_ok hp (many := 13) (by decide) (log2_small (by decide))
    have e1 : G_law_take pool [.int 13] = some (.sh (.int (f : Int)), p1) := e1
    simp_all_arith [e1]
    refine wp_forE toD (List.range f) (fun rest Γ => ∃ (pl : O) (ws : List Web) (x y : Option O), Γ = [some pl, some (.lst (ws.map fun w => shT w)), x, y] ∧ Pool pl ∧ (∀ w ∈ ws, Good w) ∧ ws.length + rest.length ≤ 12) rfl ⟨p1, [], _, _, rfl, hp1, (fun w h => by cases h), by rw [List.length_range]; simp; omega⟩ ?_ ?_
    · rintro k rest Γ ⟨pl, ws, x, y, rfl, hpl, hg, hlen⟩
      rw [List.length_cons] at hlen
      refine ⟨_, by simp_arith [], ?_⟩
      unfold den_law_some_webs_b1
      obtain ⟨f1, p2, e2, hf1, hp2⟩ := take_ok hpl (many := 4) (by decide) (log2_small (by decide))
      have e2 : G_law_take pl [.int 4] = some (.sh (.int (f1 : Int)), p2) := e2
      have i2 : dIx (.list [.int 1, .int 2, .int 3, .int 5]) (.int (f1 : Int)) = some (.int ((([1, 2, 3, 5] : List Nat).getD f1 0 : Nat) : Int)) := by
        have : f1 = 0 ∨ f1 = 1 ∨ f1 = 2 ∨ f1 = 3 := by omega
        rcases this with rfl | rfl | rfl | rfl <;> rfl
      have b2 : 1 ≤ ([1, 2, 3, 5] : List Nat).getD f1 0 ∧ ([1, 2, 3, 5] : List Nat).getD f1 0 ≤ 5 := by
        have : f1 = 0 ∨ f1 = 1 ∨ f1 = 2 ∨ f1 = 3 := by omega
        rcases this with rfl | rfl | rfl | rfl <;> decide
      generalize ([1, 2, 3, 5] : List Nat).getD f1 0 = m at *
      have last : ∀ (pl : O) (m : Nat), Pool pl → 1 ≤ m → m ≤ 40 → ∃ (w : Web) (pl' : O), G_law_loose pl [.int (m : Int), .int 3] = some (.sh (toD w), pl') ∧ Pool pl' ∧ Good w := fun pl m hpl h1 h2 => by
        obtain ⟨w, pl', e, h3, h4, _⟩ := loose_ok hpl (most := m) (more := 3) h1 h2 (by decide)
        exact ⟨w, pl', e, h3, h4⟩
      have snoc : ∀ w : Web, Good w → ∀ v ∈ ws ++ [w], Good v := fun w g v hv => by
        rcases List.mem_append.mp hv with q | q
        · exact hg v q
        · rw [List.mem_singleton.mp q]; exact g
      by_cases hk : k = 0
      · have c1 : decide ((k : Int) = 0) = true := decide_eq_true (by omega)
        obtain ⟨f2, p3, e3, hf2, hp3⟩ := take_ok hp2 (many := 2) (by decide) (log2_small (by decide))
        have e3 : G_law_take p2 [.int 2] = some (.sh (.int (f2 : Int)), p3) := e3
        have i3 : dIx (.list [.int (m : Int), .int 40]) (.int (f2 : Int)) = some (.int ((([m, 40] : List Nat).getD f2 0 : Nat) : Int)) := by
          have : f2 = 0 ∨ f2 = 1 := by omega
          rcases this with rfl | rfl <;> rfl
        have b3 : 1 ≤ ([m, 40] : List Nat).getD f2 0 ∧ ([m, 40] : List Nat).getD f2 0 ≤ 40 := by
          have : f2 = 0 ∨ f2 = 1 := by omega
          rcases this with rfl | rfl
          · show 1 ≤ m ∧ m ≤ 40; omega
          · show 1 ≤ 40 ∧ 40 ≤ 40; omega
        generalize ([m, 40] : List Nat).getD f2 0 = m2 at *
        obtain ⟨w, p4, e4, hp4, g⟩ := last p3 m2 hp3 b3.1 b3.2
        simp_all_arith [e2, i2, c1, e3, i3, e4, x_append']
        exact ⟨p4, ws ++ [w], _, _, by rw [List.map_append]; rfl, hp4, snoc w g, by rw [List.length_append]; show ws.length + 1 + _ ≤ _; omega⟩
      · have c1 : decide ((k : Int) = 0) = false := decide_eq_false (by omega)
        obtain ⟨w, p4, e4, hp4, g⟩ := last p2 m hp2 b2.1 (by omega)
        simp_all_arith [e2, i2, c1, e4, x_append']
        exact ⟨p4, ws ++ [w], _, _, by rw [List.map_append]; rfl, hp4, snoc w g, by rw [List.length_append]; show ws.length + 1 + _ ≤ _; omega⟩
    · rintro Γ ⟨pl, ws, x, y, rfl, hpl, hg, hlen⟩
      simp_all_arith []
      exact retM_rt (o' := pl) rfl ⟨ws, erase_shT ws, hpl, hg, by simpa using hlen⟩
  obtain ⟨o, o', e, ws, h1, h2, h3, h4⟩ := key
  exact ⟨ws, o, o', e, h1, h2, h3, h4⟩
/-! ### the order of the rows and of their numbers -/
theorem plc_from (ws : List Web) : ∀ a : Nat, ws.foldl (fun a w => a * w.1) a = a * plc ws := by
  unfold plc
  induction ws with
  | nil => intro a; exact (Nat.mul_one a).symm
  | cons w t ih =>
    intro a
    rw [List.foldl_cons, List.foldl_cons, ih (a * w.1), ih (1 * w.1), Nat.one_mul, Nat.mul_assoc]
theorem plc_cons (w : Web) (ws : List Web) : plc (w :: ws) = w.1 * plc ws := by
  show ws.foldl _ (1 * w.1) = _
  rw [plc_from, Nat.one_mul]
theorem num_from (z : List (Nat × Web)) : ∀ a : Nat, z.foldl (fun a p => a * p.2.1 + p.1) a = a * plc (z.map (·.2)) + numZ z := by
  unfold numZ
  induction z with
  | nil => intro a; show a = a * 1 + 0; omega
  | cons p t ih =>
    intro a
    rw [List.foldl_cons, List.foldl_cons, ih (a * p.2.1 + p.1), ih (0 * p.2.1 + p.1), List.map_cons, plc_cons, Nat.zero_mul, Nat.zero_add, Nat.add_mul, Nat.mul_assoc, Nat.add_assoc]
theorem rno_cons {w : Web} {ws : List Web} {x : Nat} {r : List Nat} (h : r.length = ws.length) : rno (w :: ws) (x :: r) = x * plc ws + rno ws r := by
  show ((r.zip ws)).foldl _ (0 * w.1 + x) = _
  rw [num_from, zip_snd h, Nat.zero_mul, Nat.zero_add]; rfl
theorem Row.tail {w : Web} {ws : List Web} {x : Nat} {r : List Nat} (h : Row (w :: ws) (x :: r)) : Row ws r ∧ x < w.1 :=
  ⟨⟨Nat.succ.inj h.len, fun p hp => h.ok p (List.mem_cons_of_mem _ hp)⟩, h.ok (x, w) (List.mem_cons_self ..)⟩
theorem row_order {ws : List Web} : ∀ {r s : List Nat}, Row ws r → Row ws s → PySem.W.listLt r s = decide (rno ws r < rno ws s) := by
  induction ws with
  | nil =>
    intro r s hr hs
    have e1 := List.length_eq_zero_iff.mp hr.len
    have e2 := List.length_eq_zero_iff.mp hs.len
    subst e1; subst e2; rfl
  | cons w ws ih =>
    intro r s hr hs
    cases r with
    | nil => cases hr.len
    | cons x r =>
      cases s with
      | nil => cases hs.len
      | cons y s =>
        obtain ⟨hr', hx⟩ := hr.tail
        obtain ⟨hs', hy⟩ := hs.tail
        rw [rno_cons hr'.len, rno_cons hs'.len]
        have h1 := hr'.rno_lt
        have h2 := hs'.rno_lt
        show (if x = y then PySem.W.listLt r s else decide (x < y)) = _
        by_cases q : x = y
        · subst q
          rw [if_pos rfl, ih hr' hs', decide_eq_decide]
          omega
        · rw [if_neg q, decide_eq_decide]
          constructor
          · intro k
            have : (x + 1) * plc ws ≤ y * plc ws := Nat.mul_le_mul_right _ k
            rw [Nat.add_mul] at this; omega
          · intro k
            by_cases k2 : y < x
            · have : (y + 1) * plc ws ≤ x * plc ws := Nat.mul_le_mul_right _ k2
              rw [Nat.add_mul] at this; omega
            · omega
theorem plc_pos {ws : List Web} (h : ∀ w ∈ ws, Good w) : 0 < plc ws := by
  induction ws with
  | nil => exact Nat.one_pos
  | cons w t ih =>
    rw [plc_cons]
    exact Nat.mul_pos (h w (List.mem_cons_self ..)).lo (ih fun v hv => h v (List.mem_cons_of_mem _ hv))
theorem rno_zero (ws : List Web) : rno ws (List.replicate ws.length 0) = 0 := by
  induction ws with
  | nil => rfl
  | cons w t ih =>
    rw [List.length_cons, List.replicate_succ, rno_cons (List.length_replicate ..), ih, Nat.zero_mul]
theorem rno_top {ws : List Web} (h : ∀ w ∈ ws, Good w) : rno ws (ws.map fun w => w.1 - 1) = plc ws - 1 := by
  induction ws with
  | nil => rfl
  | cons w t ih =>
    have h' : ∀ v ∈ t, Good v := fun v hv => h v (List.mem_cons_of_mem _ hv)
    rw [List.map_cons, rno_cons (List.length_map ..), ih h', plc_cons, Nat.sub_mul, Nat.one_mul]
    have h1 := (h w (List.mem_cons_self ..)).lo
    have h2 := plc_pos h'
    have : 1 * plc t ≤ w.1 * plc t := Nat.mul_le_mul_right _ h1
    omega
theorem row_zero {ws : List Web} (h : ∀ w ∈ ws, Good w) : Row ws (List.replicate ws.length 0) := ⟨List.length_replicate .., fun p hp => by
  have h1 := List.of_mem_zip hp
  rw [List.eq_of_mem_replicate h1.1]
  exact (h _ h1.2).lo⟩
theorem row_top {ws : List Web} (h : ∀ w ∈ ws, Good w) : Row ws (ws.map fun w => w.1 - 1) := ⟨List.length_map .., fun p hp => by
  have : ∀ l : List Web, (l.map fun w => w.1 - 1).zip l = l.map fun w => (w.1 - 1, w) := fun l => by
    induction l with
    | nil => rfl
    | cons a l ih => rw [List.map_cons, List.zip_cons_cons, ih]; rfl
  rw [this] at hp
  obtain ⟨w, hw, rfl⟩ := List.mem_map.mp hp
  have := (h w hw).lo
  show w.1 - 1 < w.1
  omega⟩
/-! ### things that are bent -/
theorem add_any (l : List Nat) (d : D) (h : l.length ≤ 1000) : dAdd (toD l) (.list [d]) = some (.list (l.map toD ++ [d])) :=
  x_addL (by rw [List.length_map, List.length_singleton]; omega)
theorem add_any2 (l : List D) (m : List Nat) (h : l.length ≤ 2000) (h2 : m.length ≤ 1000) : dAdd (.list l) (toD m) = some (.list (l ++ m.map toD)) :=
  x_addL (by rw [List.length_map]; omega)
theorem law_bent_ok {pool : O} (hp : Pool pool) {ws : List Web} (hl : ws.length ≤ 12) {r : List Nat} (hr : r.length = ws.length) : ∃ (ds : List D) (o pool' : O), G_law_bent pool [toD ws, toD r] = some (o, pool') ∧ o.erase = .list ds ∧ Pool pool' := by
  have key : ∃ o o', G_law_bent pool [toD ws, toD r] = some (o, o') ∧ ∃ ds : List D, o.erase = .list ds ∧ Pool o' := by
    refine runM_wp ?_
    unfold den_law_bent envM
    have b1 : bTuple [toD r] = some (.tuple (r.map toD)) := rfl
    have a1 : dAdd (toD r) (.list [.int 0]) = some (.list (r.map toD ++ [.int 0])) := add_any r _ (by omega)
    by_cases hc : r = []
    · have c1 : dNe (toD r) (.list []) = some (.bool false) := (t_ne r []).trans (by rw [decide_eq_true hc]; rfl)
      simp_all_arith [b1, a1, c1]
      exact retM_rt (o' := pool) rfl ⟨_, by rw [O.erase_lst], hp⟩
    · have c1 : dNe (toD r) (.list []) = some (.bool true) := (t_ne r []).trans (by rw [decide_eq_false hc]; rfl)
      have r0 : 0 < r.length := List.length_pos_iff.mpr hc
      obtain ⟨f, p1, e1, hf, hp1⟩ := take_ok hp (many := r.length) r0 (log2_small (by omega))
      have i1 : ws[f]? = some (ws.getD f (0, [])) := get?_getD (by omega)
      generalize ws.getD f (0, []) = w at *
      have pw : dPow (.int 10) (.int 30) = some (.int 1000000000000000000000000000000) := (x_pow (by decide) (by decide) (by decide)).trans (by simp)
      simp_all_arith [b1, a1, c1, e1, i1, pw]
      refine wp_forE (fun d : D => d) [.int (w.1 : Int), .int (-1), .bool true, .bool false, .none, .str "0", .int 1000000000000000000000000000000] (fun rest Γ => ∃ (os : List O) (y : Option O), Γ = [some p1, sD (toD ws), sD (toD r), some (.lst os), sN f, y] ∧ os.length + rest.length ≤ 100) rfl ⟨_, _, rfl, by simp only [List.length_cons, List.length_nil]; omega⟩ ?_ ?_
      · rintro d rest Γ ⟨os, y, rfl, ho⟩
        rw [List.length_cons] at ho
        refine ⟨_, by simp_arith [], ?_⟩
        unfold den_law_bent_b1
        have k1 : cutD r none (some (f : Int)) = r.take f := cut_to r f
        have k2 : cutD r (some ((f + 1 : Nat) : Int)) none = r.drop (f + 1) := cut_from r (f + 1)
        have a2 : dAdd (toD (r.take f)) (.list [d]) = some (.list ((r.take f).map toD ++ [d])) := add_any _ _ (by rw [List.length_take]; omega)
        have a3 : dAdd (.list ((r.take f).map toD ++ [d])) (toD (r.drop (f + 1))) = some (.list (((r.take f).map toD ++ [d]) ++ (r.drop (f + 1)).map toD)) := add_any2 _ _ (by rw [List.length_append, List.length_map, List.length_take]; show _ + 1 ≤ _; omega) (by rw [List.length_drop]; omega)
        simp_all_arith [k1, k2, a2, a3, x_append']
        exact ⟨_, _, rfl, by rw [List.length_append]; show _ + 1 + _ ≤ _; omega⟩
      · rintro Γ ⟨os, y, rfl, ho⟩
        simp_all_arith []
        exact retM_rt (o' := p1) rfl ⟨_, by rw [O.erase_lst], hp1⟩
  obtain ⟨o, o', e, ds, h1, h2⟩ := key
  exact ⟨ds, o, o', e, h1, h2⟩
/-! ### ties of rows -/
abbrev wAt (ws : List Web) (k : Nat) : Web := ws.getD k (0, [])
abbrev pAt (r : List Nat) (k : Nat) : Nat := r.getD k 0
def apart (n : Nat) (r s : List Nat) : List Nat := (List.range n).filter fun k => !decide (pAt r k = pAt s k)
def rtied (ws : List Web) (r s : List Nat) : Bool := match apart ws.length r s with
  | [k] => tied (wAt ws k) (pAt r k) (pAt s k)
  | _ => false
theorem apart_comm (n : Nat) (r s : List Nat) : apart n r s = apart n s r := by
  unfold apart
  congr 1
  funext k
  rw [decide_eq_decide.mpr eq_comm]
theorem rtied_comm (ws : List Web) (r s : List Nat) : rtied ws r s = rtied ws s r := by
  unfold rtied
  rw [apart_comm]
  split
  · exact tied_comm _ _ _
  · rfl
theorem tied_inW (w : Web) (a b : Nat) : dInX (.tuple [.int ((min a b : Nat) : Int), .int ((max a b : Nat) : Int)]) (toD w.2) = some (.bool (tied w a b)) := (t_in (min a b, max a b) w.2 : dInX (toD (min a b, max a b)) (toD w.2) = _).trans (congrArg (fun b => some (PyData.bool b)) (decide_eq_decide.mpr Iff.rfl))
theorem at_some {α : Type} {l : List α} {d : α} {k n : Nat} (h : l.length = n) (hk : k < n) : l[k]? = some (l.getD k d) := get?_getD (by omega)
theorem tied_in_ok {ws : List Web} (hl : ws.length ≤ 1000) {r s : List Nat} (hr : r.length = ws.length) (hs : s.length = ws.length) : G_tied_in [toD ws, toD r, toD s] = some (.ok (.sh (.bool (rtied ws r s)))) := by
  refine runF_ok ?_
  unfold den_tied_in env0
  simp_all_arith []
  refine wpM_compTF toD (List.range ws.length) (fun k => !decide (pAt r k = pAt s k)) (fun k => k) (by simp_arith []) rfl (by rw [List.length_range]; omega) (fun k hk => ?_) ?_
  · rw [List.mem_range] at hk
    have f1 : r[k]? = some (pAt r k) := at_some hr hk
    have f2 : s[k]? = some (pAt s k) := at_some hs hk
    generalize pAt r k = a at *
    generalize pAt s k = b at *
    have hn : dNe (.int (a : Int)) (.int (b : Int)) = some (.bool (!decide (a = b))) := t_ne a b
    exact ⟨_, _, by simp_arith [], by simp_arith [den_tied_in_c2, f1, f2, hn], fun _ => by simp_arith [], fun _ => ⟨_, by simp_arith [den_tied_in_e1], by simp_arith []⟩⟩
  · rw [List.map_id']
    have hap : List.filter (fun k => !decide (pAt r k = pAt s k)) (List.range ws.length) = apart ws.length r s := rfl
    rw [hap]
    have hm : ∀ k ∈ apart ws.length r s, k < ws.length := fun k hk => List.mem_range.mp (List.mem_filter.mp hk).1
    have hT : rtied ws r s = match apart ws.length r s with | [k] => tied (wAt ws k) (pAt r k) (pAt s k) | _ => false := rfl
    generalize apart ws.length r s = ap at *
    by_cases h1 : ap.length = 1
    · obtain ⟨k, rfl⟩ := List.length_eq_one_iff.mp h1
      have hk := hm k (List.mem_singleton.mpr rfl)
      have f1 : r[k]? = some (pAt r k) := at_some hr hk
      have f2 : s[k]? = some (pAt s k) := at_some hs hk
      have f3 : ws[k]? = some (wAt ws k) := at_some rfl hk
      have hT : rtied ws r s = tied (wAt ws k) (pAt r k) (pAt s k) := hT
      have e1 : bLenX [toD [k]] = some (.int 1) := t_len [k]
      have e2 : dNe (.int 1) (.int 1) = some (.bool false) := t_ne 1 1
      have e3 : dIx (toD [k]) (.int 0) = some (nD k) := t_ix [k] 0
      generalize pAt r k = a at *
      generalize pAt s k = b at *
      generalize wAt ws k = w at *
      simp_all_arith [e1, e2, e3, f1, f2, f3, tied_inW]
      rw [hT]
    · have hT : rtied ws r s = false := by
        rw [hT]
        split
        · exact absurd rfl h1
        · rfl
      have e1 : dNe (.int (ap.length : Int)) (.int 1) = some (.bool true) := (t_ne ap.length 1).trans (by rw [decide_eq_false h1]; rfl)
      simp_all_arith [e1]
      rw [hT]
theorem rows_tied_ok {ws : List Web} (hw : ∀ w ∈ ws, Good w) (hl : ws.length ≤ 12) {r s : List Nat} (hr : Row ws r) (hs : Row ws s) : G_rows_tied [toD ws, toD r, toD s] = some (.ok (.sh (.bool (rtied ws r s)))) := by
  refine runF_ok ?_
  unfold den_rows_tied env0
  simp_all_arith [look_at_webs_good hw hl, look_at_row_ok hl hr, look_at_row_ok hl hs, tied_in_ok (by omega) hr.len hs.len]
  rfl
/-! ### the rows beside -/
def put (r : List Nat) (k q : Nat) : List Nat := (r.take k ++ [q]) ++ r.drop (k + 1)
def bes (ws : List Web) (r : List Nat) : List (List Nat) := (List.range ws.length).flatMap fun k => (nbs (wAt ws k) (pAt r k)).map (put r k)
theorem nbs_len {w : Web} (g : Good w) (p : Nat) : (nbs w p).length ≤ 40 := by
  unfold nbs
  have := List.length_filter_le (fun q => tied w p q) (List.range w.1)
  rw [List.length_range] at this
  have := g.hi
  omega
theorem beside_by_ok {ws : List Web} (hw : ∀ w ∈ ws, Good w) (hl : ws.length ≤ 12) {r : List Nat} (hr : Row ws r) : G_beside_by [toD (ws.map fun w => (List.range w.1).map (nbs w)), toD r] = some (.ok (tO (srt (bes ws r)))) := by
  refine runF_ok ?_
  unfold den_beside_by env0
  have en : enumD [toD r] = some (r.zipIdx.map fun p => .tuple [.int (p.2 : Int), toD p.1]) := t_enum r
  simp_all_arith [en]
  refine wp_forE (fun p : Nat × Nat => .tuple [.int (p.2 : Int), toD p.1]) r.zipIdx (fun rest Γ => ∃ (k : Nat) (x y : Option O), Γ = [sD (toD (ws.map fun w => (List.range w.1).map (nbs w))), sD (toD r), some (tO ((List.range k).flatMap fun k => (nbs (wAt ws k) (pAt r k)).map (put r k))), x, y, none] ∧ rest = (r.drop k).zipIdx k ∧ k + rest.length = ws.length ∧ ((List.range k).flatMap fun k => (nbs (wAt ws k) (pAt r k)).map (put r k)).length ≤ 40 * k) rfl ⟨0, _, _, rfl, rfl, by rw [List.length_zipIdx, hr.len]; simp, Nat.zero_le _⟩ ?_ ?_
  · rintro p rest Γ ⟨k, x, y, rfl, e, hk, hb⟩
    rw [List.length_cons] at hk
    have kl : k < r.length := by rw [hr.len]; omega
    have f1 : r[k]? = some (pAt r k) := at_some hr.len (by omega)
    have e0 : r.drop k = pAt r k :: r.drop (k + 1) := by
      rw [List.drop_eq_getElem_cons kl]
      rw [List.getElem?_eq_getElem kl] at f1
      rw [Option.some.inj f1]
    rw [e0] at e
    cases e
    have f3 : ws[k]? = some (wAt ws k) := at_some rfl (by omega)
    have g : Good (wAt ws k) := hw _ (List.mem_of_getElem? f3)
    have hp : pAt r k < (wAt ws k).1 := by
      have hz : (r.zip ws)[k]? = some (pAt r k, wAt ws k) := by rw [List.getElem?_zip_eq_some]; exact ⟨f1, f3⟩
      exact hr.ok _ (List.mem_of_getElem? hz)
    have hn := nbs_len g (pAt r k)
    have i1 : (ws.map fun w => (List.range w.1).map (nbs w))[k]? = some ((List.range (wAt ws k).1).map (nbs (wAt ws k))) := by rw [List.getElem?_map, f3]; rfl
    have i2 : ((List.range (wAt ws k).1).map (nbs (wAt ws k)))[pAt r k]? = some (nbs (wAt ws k) (pAt r k)) := by rw [List.getElem?_map, List.getElem?_range hp]; rfl
    have k1 : cutD r none (some (k : Int)) = r.take k := cut_to r k
    have k2 : cutD r (some ((k + 1 : Nat) : Int)) none = r.drop (k + 1) := cut_from r (k + 1)
    have hrl := hr.len
    have a2 : ∀ q : Nat, dAdd (toD (r.take k)) (.list [.int (q : Int)]) = some (toD (r.take k ++ [q])) := fun q => t_add (r.take k) [q] (by rw [List.length_take]; show _ + 1 ≤ _; omega)
    have a3 : ∀ q : Nat, dAdd (toD (r.take k ++ [q])) (toD (r.drop (k + 1))) = some (toD (put r k q)) := fun q => t_add _ _ (by rw [List.length_append, List.length_take, List.length_drop]; show _ + 1 + _ ≤ _; omega)
    refine ⟨_, by simp_arith [], ?_⟩
    unfold den_beside_by_b2
    generalize hacc : ((List.range k).flatMap fun k => (nbs (wAt ws k) (pAt r k)).map (put r k)) = acc at *
    have hsucc : ((List.range (k + 1)).flatMap fun k => (nbs (wAt ws k) (pAt r k)).map (put r k)) = acc ++ (nbs (wAt ws k) (pAt r k)).map (put r k) := by
      rw [List.range_succ, List.flatMap_append, hacc]; simp
    simp_all_arith []
    refine wpM_compMap toD (nbs (wAt ws k) (pAt r k)) (fun q => shT (put r k q)) (by simp_arith [i1, i2]) rfl (by omega) (fun q hq => ⟨_, _, by simp_arith [], by simp_arith [den_beside_by_e1, k1, k2, a2, a3, shT], by simp_arith []⟩) ?_
    have ex : opExtend (.lst ((nbs (wAt ws k) (pAt r k)).map fun q => shT (put r k q))) (acc.map shT) = some (.sh .none, (acc ++ (nbs (wAt ws k) (pAt r k)).map (put r k)).map shT) := by
      have := t_extend acc ((nbs (wAt ws k) (pAt r k)).map (put r k)) (by rw [List.length_map]; omega)
      rw [List.map_map] at this
      exact this
    simp_all_arith [ex]
    rw [← hsucc]
    exact ⟨k + 1, _, _, rfl, rfl, by rw [← hk]; omega, by rw [hsucc, List.length_append, List.length_map]; omega⟩
  · rintro Γ ⟨k, x, y, rfl, e, hk, hb⟩
    rw [List.length_nil, Nat.add_zero] at hk
    subst hk
    have hb' : (bes ws r).length ≤ 16777216 := by show List.length (List.flatMap _ _) ≤ _; omega
    have ts : oSorted [toD (bes ws r)] = some (tO (srt (bes ws r))) := t_sorted _
    have hd : ((List.range ws.length).flatMap fun k => (nbs (wAt ws k) (pAt r k)).map (put r k)) = bes ws r := rfl
    rw [hd]
    simp_all_arith [ts]
    rfl
theorem rows_beside_ok {ws : List Web} (hw : ∀ w ∈ ws, Good w) (hl : ws.length ≤ 12) {r : List Nat} (hr : Row ws r) : G_rows_beside [toD ws, toD r] = some (.ok (tO (srt (bes ws r)))) := by
  refine runF_ok ?_
  unfold den_rows_beside env0
  simp_all_arith [look_at_webs_good hw hl, look_at_row_ok hl hr]
  refine wpM_compMap toD ws (fun w => O.lst (((List.range w.1).map (nbs w)).map tO)) (by simp_arith []) rfl (by omega) (fun w hw' => ⟨_, _, by simp_arith [], by simp_arith [den_rows_beside_e1, beside_all_ok (hw w hw')], by simp_arith []⟩) ?_
  have er : (O.lst (ws.map fun w => O.lst (((List.range w.1).map (nbs w)).map tO))).erase = toD (ws.map fun w => (List.range w.1).map (nbs w)) := by
    rw [O.erase_lst, List.map_map, toD_list, List.map_map]
    refine congrArg _ (List.map_congr_left fun w _ => ?_)
    exact erase_tO ((List.range w.1).map (nbs w))
  simp_all_arith [er, beside_by_ok hw hl hr]
  rfl
/-! ### rows place by place -/
theorem put_eq {r : List Nat} {k q : Nat} (h : k < r.length) : put r k q = r.set k q := by
  unfold put
  rw [List.set_eq_take_append_cons_drop, if_pos h, List.append_assoc]; rfl
theorem pAt_set {r : List Nat} {k q : Nat} (h : k < r.length) (j : Nat) : pAt (r.set k q) j = if j = k then q else pAt r j := by
  show (r.set k q).getD j 0 = _
  rw [List.getD_eq_getElem?_getD, List.getElem?_set]
  by_cases e : j = k
  · subst e; simp [h]
  · rw [if_neg (fun q => e q.symm), if_neg e]; simp
theorem row_iff {ws : List Web} {r : List Nat} : Row ws r ↔ r.length = ws.length ∧ ∀ k, k < ws.length → pAt r k < (wAt ws k).1 := by
  constructor
  · intro h
    refine ⟨h.len, fun k hk => ?_⟩
    have f1 : r[k]? = some (pAt r k) := at_some h.len hk
    have f3 : ws[k]? = some (wAt ws k) := at_some rfl hk
    have hz : (r.zip ws)[k]? = some (pAt r k, wAt ws k) := by rw [List.getElem?_zip_eq_some]; exact ⟨f1, f3⟩
    exact h.ok _ (List.mem_of_getElem? hz)
  · rintro ⟨h1, h2⟩
    refine ⟨h1, fun p hp => ?_⟩
    obtain ⟨k, hk⟩ := List.mem_iff_getElem?.mp hp
    obtain ⟨a, b⟩ := List.getElem?_zip_eq_some.mp hk
    have hkl : k < ws.length := by
      rcases Nat.lt_or_ge k ws.length with q | q
      · exact q
      · rw [List.getElem?_eq_none q] at b; cases b
    have f1 : r[k]? = some (pAt r k) := at_some h1 hkl
    have f3 : ws[k]? = some (wAt ws k) := at_some rfl hkl
    rw [f1] at a; rw [f3] at b
    rw [← Option.some.inj a, ← Option.some.inj b]
    exact h2 k hkl
theorem wAt_good {ws : List Web} (hw : ∀ w ∈ ws, Good w) {k : Nat} (hk : k < ws.length) : Good (wAt ws k) :=
  hw _ (List.mem_of_getElem? (at_some rfl hk : ws[k]? = some (wAt ws k)))
/-- one step from a row to a row beside it -/
structure Step (ws : List Web) (r s : List Nat) (k q : Nat) : Prop where
  lt : k < ws.length
  tie : tied (wAt ws k) (pAt r k) q = true
  eq : s = r.set k q
theorem mem_bes {ws : List Web} (hw : ∀ w ∈ ws, Good w) {r s : List Nat} (hr : r.length = ws.length) : s ∈ bes ws r ↔ ∃ k q, Step ws r s k q := by
  unfold bes
  rw [List.mem_flatMap]
  constructor
  · rintro ⟨k, hk, hs⟩
    obtain ⟨q, hq, rfl⟩ := List.mem_map.mp hs
    have hk := List.mem_range.mp hk
    exact ⟨k, q, hk, (mem_nbs (wAt_good hw hk)).mp hq, put_eq (by omega)⟩
  · rintro ⟨k, q, h⟩
    exact ⟨k, List.mem_range.mpr h.lt, List.mem_map.mpr ⟨q, (mem_nbs (wAt_good hw h.lt)).mpr h.tie, by rw [h.eq, put_eq (by have := h.lt; omega)]⟩⟩
theorem Step.row {ws : List Web} (hw : ∀ w ∈ ws, Good w) {r s : List Nat} {k q : Nat} (hr : Row ws r) (h : Step ws r s k q) : Row ws s := by
  have hl := hr.len
  have hk := h.lt
  rw [row_iff] at hr ⊢
  rw [h.eq]
  refine ⟨by rw [List.length_set]; exact hl, fun j hj => ?_⟩
  rw [pAt_set (by omega)]
  by_cases e : j = k
  · subst e; rw [if_pos rfl]; exact (tied_lt (wAt_good hw hk) h.tie).2.1
  · rw [if_neg e]; exact hr.2 j hj
theorem filter_one (k : Nat) : ∀ n : Nat, (List.range n).filter (fun j => decide (j = k)) = if k < n then [k] else [] := by
  intro n
  induction n with
  | zero => rfl
  | succ n ih =>
    rw [List.range_succ, List.filter_append, ih]
    by_cases e : n = k
    · subst e; simp
    · by_cases h : k < n
      · rw [if_pos h, if_pos (by omega)]; simp [e]
      · rw [if_neg h, if_neg (by omega)]; simp [e]
theorem Step.apart1 {ws : List Web} (hw : ∀ w ∈ ws, Good w) {r s : List Nat} {k q : Nat} (hr : r.length = ws.length) (h : Step ws r s k q) : apart ws.length r s = [k] := by
  have hk := h.lt
  have hne := (tied_lt (wAt_good hw hk) h.tie).2.2
  have : apart ws.length r s = (List.range ws.length).filter (fun j => decide (j = k)) := by
    unfold apart
    congr 1
    funext j
    rw [h.eq, pAt_set (by omega)]
    by_cases e : j = k
    · subst e; rw [if_pos rfl, decide_eq_false hne, decide_eq_true rfl]; rfl
    · rw [if_neg e, decide_eq_false e, decide_eq_true rfl]; rfl
  rw [this, filter_one, if_pos hk]
theorem Step.tied {ws : List Web} (hw : ∀ w ∈ ws, Good w) {r s : List Nat} {k q : Nat} (hr : r.length = ws.length) (h : Step ws r s k q) : rtied ws r s = true := by
  have := h.apart1 hw hr
  unfold rtied
  rw [this]
  show WT.tied _ _ (pAt s k) = true
  rw [h.eq, pAt_set (by have := h.lt; omega), if_pos rfl]
  exact h.tie
theorem Step.back {ws : List Web} {r s : List Nat} {k q : Nat} (hr : r.length = ws.length) (h : Step ws r s k q) : Step ws s r k (pAt r k) := by
  have hk := h.lt
  have hl : k < r.length := by omega
  refine ⟨hk, ?_, ?_⟩
  · rw [h.eq, pAt_set hl, if_pos rfl, tied_comm]; exact h.tie
  · rw [h.eq, List.set_set]
    refine List.ext_getElem (by rw [List.length_set]) fun i h1 h2 => ?_
    rw [List.getElem_set]
    by_cases e : k = i
    · subst e; rw [if_pos rfl]; simp [h1]
    · rw [if_neg e]
theorem apart_self (n : Nat) (r : List Nat) : apart n r r = [] := by
  unfold apart
  rw [List.filter_eq_nil_iff]
  intro k _
  simp
theorem rtied_self (ws : List Web) (r : List Nat) : rtied ws r r = false := by
  unfold rtied; rw [apart_self]
theorem rtied_two {ws : List Web} {r s : List Nat} {j k : Nat} (hj : j < ws.length) (hk : k < ws.length) (hne : j ≠ k) (h1 : pAt r j ≠ pAt s j) (h2 : pAt r k ≠ pAt s k) : rtied ws r s = false := by
  have m1 : j ∈ apart ws.length r s := List.mem_filter.mpr ⟨List.mem_range.mpr hj, by rw [decide_eq_false h1]; rfl⟩
  have m2 : k ∈ apart ws.length r s := List.mem_filter.mpr ⟨List.mem_range.mpr hk, by rw [decide_eq_false h2]; rfl⟩
  unfold rtied
  split
  · rename_i x e
    rw [e, List.mem_singleton] at m1 m2
    exact absurd (m1.trans m2.symm) hne
  · rfl
theorem nbs_nodup (w : Web) (p : Nat) : (nbs w p).Nodup := List.Pairwise.filter _ List.nodup_range
theorem bes_nodup {ws : List Web} (hw : ∀ w ∈ ws, Good w) {r : List Nat} (hr : r.length = ws.length) : (bes ws r).Nodup := by
  unfold bes
  rw [List.Nodup, List.pairwise_flatMap]
  refine ⟨fun k hk => ?_, ?_⟩
  · have hk := List.mem_range.mp hk
    rw [List.pairwise_map]
    refine (nbs_nodup _ _).imp fun {a b} hne e => hne ?_
    rw [put_eq (by omega), put_eq (by omega)] at e
    have := congrArg (fun l => pAt l k) e
    simpa only [pAt_set (show k < r.length by omega), if_true] using this
  · refine (List.pairwise_lt_range).imp_of_mem fun {j k} hj hk hlt s hs t ht e => ?_
    subst e
    have hj := List.mem_range.mp hj
    have hk := List.mem_range.mp hk
    obtain ⟨a, ha, e1⟩ := List.mem_map.mp hs
    obtain ⟨b, hb, e2⟩ := List.mem_map.mp ht
    have h1 := (tied_lt (wAt_good hw hj) ((mem_nbs (wAt_good hw hj)).mp ha)).2.2
    rw [put_eq (by omega)] at e1 e2
    have q1 : pAt s j = a := by rw [← e1, pAt_set (by omega), if_pos rfl]
    have q2 : pAt s j = pAt r j := by rw [← e2, pAt_set (by omega), if_neg (by omega)]
    exact h1 (q2.symm.trans q1)
theorem zip_adj {α : Type} {R : α → α → Prop} {l : List α} (h : l.Pairwise R) {p : α × α} (hp : p ∈ l.zip (l.drop 1)) : R p.1 p.2 := by
  obtain ⟨i, hi⟩ := List.mem_iff_getElem?.mp hp
  obtain ⟨a, b⟩ := List.getElem?_zip_eq_some.mp hi
  rw [List.getElem?_drop] at b
  obtain ⟨h1, e1⟩ := List.getElem?_eq_some_iff.mp a
  obtain ⟨h2, e2⟩ := List.getElem?_eq_some_iff.mp b
  rw [← e1, ← e2]
  exact List.pairwise_iff_getElem.mp h i (1 + i) h1 h2 (by omega)
/-! ### the law's own counting -/
theorem coll_cnt (p : Nat) (l : List Tie) : (∀ t ∈ l, t.1 < t.2) → (l.filter fun t => decide (p ∈ [t.1, t.2])).length = (coll p l).length := by
  induction l with
  | nil => intro _; rfl
  | cons t l ih =>
    intro h
    have ht := h t (List.mem_cons_self ..)
    have ih := ih fun t ht => h t (List.mem_cons_of_mem _ ht)
    unfold coll at ih ⊢
    rw [List.filterMap_cons]
    by_cases h1 : t.1 = p
    · rw [if_pos h1, List.filter_cons_of_pos (by simp [h1]), List.length_cons, List.length_cons, ih]
    · by_cases h2 : t.2 = p
      · rw [if_neg h1, if_pos h2, List.filter_cons_of_pos (by simp [h2]), List.length_cons, List.length_cons, ih]
      · rw [if_neg h1, if_neg h2, List.filter_cons_of_neg (by simp; omega), ih]
theorem nbs_cnt {w : Web} (g : Good w) (p : Nat) : (w.2.filter fun t => decide (p ∈ [t.1, t.2])).length = (nbs w p).length := by
  rw [coll_cnt p w.2 fun t ht => (g.ok t ht).1, ← srt_coll g p, srt_len]
theorem in_tie (p : Nat) (t : Tie) : dInX (.int (p : Int)) (toD t) = some (.bool (decide (p ∈ [t.1, t.2]))) := by
  have h := any_eqv p [t.1, t.2]
  show dIn (.int (p : Int)) (.tuple [.int (t.1 : Int), .int (t.2 : Int)]) = _
  unfold dIn
  exact (if_pos ⟨rfl, rfl⟩).trans (congrArg (fun b => some (PyData.bool b)) h)
theorem neI (a : Int) : dNe (.int a) (.int a) = some (.bool false) := (t_ne a a).trans (by simp)
theorem neLN (l : List Nat) : dNe (toD l) (toD l) = some (.bool false) := (t_ne l l).trans (by simp)
theorem web_of_ok {n : Nat} (hn : n ≤ 1000) {r s : List Nat} (hr : r.length = n) (hs : s.length = n) : G_law_web_of [toD r, toD s] = some (.ok (tO (apart n r s))) := by
  refine runF_ok ?_
  unfold den_law_web_of env0
  simp_all_arith []
  refine wpM_compTF toD (List.range r.length) (fun k => !decide (pAt r k = pAt s k)) (fun k => k) (by simp_arith []) rfl (by rw [List.length_range]; omega) (fun k hk => ?_) ?_
  · rw [List.mem_range] at hk
    have f1 : r[k]? = some (pAt r k) := at_some rfl hk
    have f2 : s[k]? = some (pAt s k) := at_some hs (by omega)
    generalize pAt r k = a at *
    generalize pAt s k = b at *
    have hn : dNe (.int (a : Int)) (.int (b : Int)) = some (.bool (!decide (a = b))) := t_ne a b
    exact ⟨_, _, by simp_arith [], by simp_arith [den_law_web_of_c2, f1, f2, hn], fun _ => by simp_arith [], fun _ => ⟨_, by simp_arith [den_law_web_of_e1], by simp_arith []⟩⟩
  · rw [List.map_id', hr]
    have hap : List.filter (fun k => !decide (pAt r k = pAt s k)) (List.range n) = apart n r s := rfl
    rw [hap]
    simp_all_arith []
    rfl
theorem own_ok {ws : List Web} (hw : ∀ w ∈ ws, Good w) {r : List Nat} (hr : r.length = ws.length) : G_law_own [toD ws, toD r] = some (.ok (nO (bes ws r).length)) := by
  refine runF_ok ?_
  unfold den_law_own env0
  simp_all_arith []
  refine wp_forE toD (r.zip ws) (fun rest Γ => ∃ (k : Nat) (x y : Option O), Γ = [sD (toD ws), sD (toD r), sN ((List.range k).flatMap fun k => (nbs (wAt ws k) (pAt r k)).map (put r k)).length, x, y, none] ∧ rest = (r.zip ws).drop k ∧ k + rest.length = ws.length) rfl ⟨0, _, _, rfl, rfl, by rw [List.length_zip]; omega⟩ ?_ ?_
  · rintro p rest Γ ⟨k, x, y, rfl, e, hk⟩
    rw [List.length_cons] at hk
    have kl : k < ws.length := by omega
    have f1 : r[k]? = some (pAt r k) := at_some hr kl
    have f3 : ws[k]? = some (wAt ws k) := at_some rfl kl
    have hz : (r.zip ws)[k]? = some (pAt r k, wAt ws k) := by rw [List.getElem?_zip_eq_some]; exact ⟨f1, f3⟩
    have zl : k < (r.zip ws).length := by rw [List.length_zip]; omega
    rw [List.drop_eq_getElem_cons zl] at e
    rw [List.getElem?_eq_getElem zl] at hz
    rw [Option.some.inj hz] at e
    cases e
    have g := wAt_good hw kl
    have l3 := g.few
    have hsucc : ((List.range (k + 1)).flatMap fun k => (nbs (wAt ws k) (pAt r k)).map (put r k)).length = ((List.range k).flatMap fun k => (nbs (wAt ws k) (pAt r k)).map (put r k)).length + (nbs (wAt ws k) (pAt r k)).length := by
      rw [List.range_succ, List.flatMap_append, List.length_append]; simp
    have hcnt := nbs_cnt g (pAt r k)
    refine ⟨_, by simp_arith [], ?_⟩
    unfold den_law_own_b3
    simp_all_arith []
    refine wpM_compTF toD (wAt ws k).2 (fun t => decide (pAt r k ∈ [t.1, t.2])) (fun t => t) (by simp_arith []) rfl (by omega) (fun t ht => ⟨_, _, by simp_arith [], by simp_arith [den_law_own_c2, in_tie], fun _ => by simp_arith [], fun _ => ⟨_, by simp_arith [den_law_own_e1], by simp_arith []⟩⟩) ?_
    rw [List.map_id']
    simp_all_arith [hcnt]
    rw [← hsucc]
    exact ⟨k + 1, _, _, rfl, rfl, by rw [← hk]; omega⟩
  · rintro Γ ⟨k, x, y, rfl, e, hk⟩
    rw [List.length_nil, Nat.add_zero] at hk
    subst hk
    simp_all_arith []
    rfl
theorem bes_len {ws : List Web} (hw : ∀ w ∈ ws, Good w) (hl : ws.length ≤ 12) (r : List Nat) : (bes ws r).length ≤ 480 := by
  have : ∀ k, k ≤ ws.length → ((List.range k).flatMap fun k => (nbs (wAt ws k) (pAt r k)).map (put r k)).length ≤ 40 * k := by
    intro k
    induction k with
    | zero => intro _; exact Nat.zero_le _
    | succ k ih =>
      intro hk
      have h1 := ih (by omega)
      have h2 := nbs_len (wAt_good hw (show k < ws.length by omega)) (pAt r k)
      rw [List.range_succ, List.flatMap_append, List.length_append]
      simp only [List.flatMap_cons, List.flatMap_nil, List.append_nil, List.length_map]
      omega
  have h := this ws.length (Nat.le_refl _)
  show List.length (List.flatMap _ _) ≤ _
  omega
theorem mul20 : dMul (.int 2) (.int 0) = some (.int 0) := (x_mul (by decide) (by decide)).trans (by simp)
theorem mul21 : dMul (.int 2) (.int 1) = some (.int 2) := (x_mul (by decide) (by decide)).trans (by simp)
theorem row_right_ok {pool : O} (hp : Pool pool) {ws : List Web} (hw : ∀ w ∈ ws, Good w) (hl : ws.length ≤ 12) {r : List Nat} (hr : Row ws r) : ∃ pool', G_law_row_right pool [toD ws, toD r] = some (.sh (toD (srt (bes ws r))), pool') ∧ Pool pool' := by
  have key : ∃ o o', G_law_row_right pool [toD ws, toD r] = some (o, o') ∧ o = .sh (toD (srt (bes ws r))) ∧ Pool o' := by
    refine runM_wp ?_
    unfold den_law_row_right envM
    have b1 := rows_beside_ok hw hl hr
    have own := own_ok hw hr.len
    have hlen : (srt (bes ws r)).length = (bes ws r).length := srt_len _
    have hmem : ∀ s ∈ srt (bes ws r), ∃ k q, Step ws r s k q := fun s hs => (mem_bes hw hr.len).mp (mem_srt.mp hs)
    have hsrt := srt_lt (bes_nodup hw hr.len)
    rw [← hlen] at own
    have hB480 : (srt (bes ws r)).length ≤ 480 := by rw [hlen]; exact bes_len hw hl r
    generalize srt (bes ws r) = B at *
    have tr := rows_tied_ok hw hl hr hr
    rw [rtied_self] at tr
    have no := number_of_ok hw hl hr
    have ro := row_of_ok hw hl hr.rno_lt
    rw [hr.back] at ro
    have er : ∀ l : List (List Nat), (tO l).erase = toD l := tO_erase
    have er1 : ∀ l : List Nat, (tO l).erase = toD l := tO_erase
    obtain ⟨bb, m, c1, c3, hm, hB⟩ : ∃ (bb : Bool) (m : Nat), dNe (toD B) (.list []) = some (.bool bb) ∧ dMul (.int 2) (.int (if bb = true then 1 else 0)) = some (.int (m : Int)) ∧ m ≤ 2 ∧ (0 < m → B ≠ []) := by
      by_cases h : B = []
      · exact ⟨false, 0, (t_ne B []).trans (by rw [decide_eq_true h]; rfl), mul20, by decide, fun h => absurd h (by decide)⟩
      · exact ⟨true, 2, (t_ne B []).trans (by rw [decide_eq_false h]; rfl), mul21, by decide, fun _ => h⟩
    simp_all_arith [b1, own, er, er1, neI, tr, no, ro, neLN, c1, c3]
    refine wp_forE toD (List.range m) (fun rest Γ => ∃ (pl : O) (x y : Option O), Γ = [some pl, sD (toD ws), sD (toD r), sD (toD B), sN (rno ws r), x, y, none] ∧ Pool pl ∧ (rest ≠ [] → B ≠ [])) rfl ⟨pool, _, _, rfl, hp, fun h => hB (by
      rcases Nat.eq_zero_or_pos m with q | q
      · subst q; exact absurd rfl h
      · exact q)⟩ ?_ ?_
    · rintro k rest Γ ⟨pl, x, y, rfl, hpl, hne⟩
      have hne := hne (by simp)
      obtain ⟨f, p2, e2, hf, hp2⟩ := take_ok hpl (many := B.length) (List.length_pos_iff.mpr hne) (log2_small (by omega))
      have i1 : B[f]? = some (B[f]'hf) := List.getElem?_eq_getElem hf
      obtain ⟨k, q, st⟩ := hmem _ (List.getElem_mem hf)
      generalize B[f]'hf = s at *
      have hs := st.row hw hr
      have io := is_row_ok hw hl (toD s)
      rw [isRow_toD hs] at io
      have wo := web_of_ok (n := ws.length) (by omega) hr.len hs.len
      rw [st.apart1 hw hr.len] at wo
      have nos := number_of_ok hw hl hs
      have hneq : rno ws s ≠ rno ws r := fun e => by
        have : s = r := by rw [← hs.back, ← hr.back, e]
        have h2 := rtied_self ws r
        have h3 := st.tied hw hr.len
        rw [this, h2] at h3; cases h3
      have eqn : dEq (.int (rno ws s : Int)) (.int (rno ws r : Int)) = some (.bool false) := (t_eq (rno ws s) (rno ws r)).trans (by rw [decide_eq_false hneq])
      have t1 := rows_tied_ok hw hl hr hs
      have t2 := rows_tied_ok hw hl hs hr
      rw [rtied_comm ws s r] at t2
      rw [st.tied hw hr.len] at t1 t2
      have b2 := rows_beside_ok hw hl hs
      have hin : r ∈ srt (bes ws s) := mem_srt.mpr ((mem_bes hw hs.len).mpr ⟨_, _, st.back hr.len⟩)
      have ni : dNotInX (toD r) (toD (srt (bes ws s))) = some (.bool false) := (t_notin r (srt (bes ws s))).trans (by simp [hin])
      have l1 : bLenX [toD [k]] = some (.int 1) := t_len [k]
      refine ⟨_, by simp_arith [], ?_⟩
      unfold den_law_row_right_b1
      simp_all_arith [e2, i1, io, wo, er1, l1, neI, nos, eqn, t1, t2, b2, er, ni]
      exact ⟨p2, _, _, rfl, hp2, fun _ => hne⟩
    · rintro Γ ⟨pl, x, y, rfl, hpl, _⟩
      have cu : cutD B (some 1) none = B.drop 1 := cut_from B 1
      simp_all_arith [cu, er]
      refine wp_forE toD (B.zip (B.drop 1)) (fun rest Γ => ∃ (a b c : Option O), Γ = [some pl, sD (toD ws), sD (toD r), sD (toD B), sN (rno ws r), a, b, c] ∧ ∀ p ∈ rest, PySem.W.DatumOrd.lt p.1 p.2 = true) rfl ⟨_, _, _, rfl, fun p hp => zip_adj hsrt hp⟩ ?_ ?_
      · rintro ⟨s, t⟩ rest Γ ⟨a, b, c, rfl, hlt⟩
        have h1 : dLt (toD s) (toD t) = some (.bool true) := (t_lt s t).trans (by rw [show PySem.W.DatumOrd.lt s t = true from hlt _ (List.mem_cons_self ..)])
        refine ⟨_, by simp_arith [], ?_⟩
        unfold den_law_row_right_b2
        simp_all_arith [h1]
        exact ⟨_, _, _, rfl, fun p hp => hlt p (List.mem_cons_of_mem _ hp)⟩
      · rintro Γ ⟨a, b, c, rfl, _⟩
        simp_all_arith []
        exact retM_rt (o' := pl) rfl ⟨rfl, hpl⟩
  obtain ⟨o, o', e, rfl, h⟩ := key
  exact ⟨o', e, h⟩
theorem square_ok {ws : List Web} (hw : ∀ w ∈ ws, Good w) (hl : ws.length ≤ 12) {b r s : List Nat} (hb : Row ws b) (hr : Row ws r) (hs : Row ws s) {j p k q : Nat} (h1 : Step ws b r j p) (h2 : Step ws r s k q) : G_law_square [toD ws, toD b, toD r, toD s] = some (.ok (.sh (.bool true))) := by
  refine runF_ok ?_
  unfold den_law_square env0
  have er1 : ∀ l : List Nat, (tO l).erase = toD l := tO_erase
  have w1 := web_of_ok (n := ws.length) (by omega) hb.len hr.len
  have w2 := web_of_ok (n := ws.length) (by omega) hr.len hs.len
  rw [h1.apart1 hw hb.len] at w1
  rw [h2.apart1 hw hr.len] at w2
  have hj := h1.lt
  have hk := h2.lt
  have bl := hb.len
  have rl := hr.len
  have sl := hs.len
  by_cases e : j = k
  · have q1 : dEq (toD [j]) (toD [k]) = some (.bool true) := (t_eq [j] [k]).trans (by rw [e]; simp)
    simp_all_arith [w1, w2, er1, q1]
    rfl
  · have q1 : dEq (toD [j]) (toD [k]) = some (.bool false) := (t_eq [j] [k]).trans (by simp [e])
    have i1 : dIx (toD [k]) (.int 0) = some (nD k) := t_ix [k] 0
    have sq : pAt s k = q := by rw [h2.eq, pAt_set (by omega), if_pos rfl]
    have i2 : s[k]? = some q := by rw [← sq]; exact at_some sl hk
    have st : setO (.lst (b.map shT)) (.int (k : Int)) (.sh (.int (q : Int))) = some (.lst ((b.set k q).map shT)) := by
      rw [x_setIxL (by rw [List.length_map]; omega), List.map_set]; rfl
    have hk2 : pAt r k = pAt b k := by rw [h1.eq, pAt_set (by omega), if_neg (fun q => e q.symm)]
    have s1 : Step ws b (b.set k q) k q := ⟨hk, by rw [← hk2]; exact h2.tie, rfl⟩
    have s2 : Step ws (b.set k q) s j p := ⟨hj, by rw [pAt_set (by omega), if_neg e]; exact h1.tie, by rw [h2.eq, h1.eq, List.set_comm _ _ e]⟩
    have hq := s1.row hw hb
    have t1 := rows_tied_ok hw hl hb hq
    rw [s1.tied hw hb.len] at t1
    have t2 := rows_tied_ok hw hl hq hs
    rw [s2.tied hw hq.len] at t2
    have ne1 := (tied_lt (wAt_good hw hj) h1.tie).2.2
    have ne2 := (tied_lt (wAt_good hw hk) h2.tie).2.2
    have p1 : pAt s j = p := by rw [h2.eq, pAt_set (by omega), if_neg e, h1.eq, pAt_set (by omega), if_pos rfl]
    have t3 := rows_tied_ok hw hl hb hs
    rw [rtied_two hj hk e (by rw [p1]; exact ne1) (by rw [sq, ← hk2]; exact ne2)] at t3
    simp_all_arith [w1, w2, er1, q1, i1, i2, st]
    refine wpM_pureS ?_
    simp_all_arith [er1, t1, t2, t3]
    refine ⟨rfl, ?_⟩
    simp_all_arith []
    rfl
theorem er_shT (ws : List Web) : (O.lst (ws.map shT)).erase = toD ws := erase_shT ws
theorem isnN (l : List Nat) : dIsNot (toD l) .none = some (.bool true) := Eq.trans rfl rfl
theorem isnNN : dIsNot .none .none = some (.bool false) := Eq.trans rfl rfl
theorem k15_draw {ns : List Int} {ws : List Web} (hw : ∀ w ∈ ws, Good w) (hl : ws.length ≤ 12) {pl : O} (hp : Pool pl) {s3 s4 s5 s6 s7 : Option O} {R : Out O → DS.Env → Prop}
    (fin : ∀ r pl', Pool pl' → Row ws r → R (.ok (tO r)) [sD (toD ns), some pl', sD (toD ws), s3, s4, s5, s6, s7, none, none]) :
    wpM (compM [9] (M.bind (M.rd 2) fun d => M.lift (asSeq d)) (gPut 9) (M.pure true) den_law_k15_e2) [sD (toD ns), some pl, sD (toD ws), s3, s4, s5, s6, s7, none, none] R := by
  refine wpM_comp toD ws (fun rest acc Γ => ∃ (pl : O) (done : List Nat) (ws1 : List Web), Γ = [sD (toD ns), some pl, sD (toD ws), s3, s4, s5, s6, s7, none, none] ∧ acc = done.map shT ∧ ws1 ++ rest = ws ∧ Row ws1 done ∧ Pool pl) rfl rfl ⟨pl, [], [], rfl, rfl, rfl, ⟨rfl, fun p hp => by cases hp⟩, hp⟩ ?_ ?_
  · rintro w rest acc Γ ⟨pl, done, ws1, rfl, rfl, e, hr, hpl⟩
    have hwm : w ∈ ws := by rw [← e]; simp
    have g := hw w hwm
    have g1 := g.lo
    have g2 := g.hi
    obtain ⟨f, pl2, e3, hf, hp3⟩ := take_ok hpl (many := w.1) (by omega) (log2_small (by omega))
    have hlen : ws1.length < 1000 := by have := congrArg List.length e; rw [List.length_append, List.length_cons] at this; omega
    refine ⟨by rw [List.length_map, hr.len]; omega, _, _, true, by simp_arith [], rfl, .inr ⟨rfl, shT f, _, by simp_arith [den_law_k15_e2, e3, shT], pl2, done ++ [f], ws1 ++ [w], by simp_arith [], by rw [List.map_append]; rfl, by rw [List.append_assoc]; exact e, ⟨by rw [List.length_append, List.length_append, hr.len]; rfl, fun p hp => ?_⟩, hp3⟩⟩
    rw [List.zip_append hr.len] at hp
    rcases List.mem_append.mp hp with q | q
    · exact hr.ok p q
    · rw [List.mem_singleton.mp q]; exact hf
  · rintro l Γ ⟨pl, done, ws1, rfl, rfl, e, hr, hpl⟩
    rw [List.append_nil] at e
    subst e
    exact fin done pl hpl hr
theorem law_k15_true (ns : List Int) (_ : ns.length ≤ 63) : G_law_k15 [.list (ns.map .int)] = some (.ok (.sh (.bool true))) := by
  have hns : (PyData.list (ns.map .int)) = toD ns := rfl
  rw [hns]
  refine runF_ok ?_
  unfold den_law_k15 env0
  obtain ⟨p0, e0, hp0⟩ := pool_ok ns (k := 0) (by decide)
  have e0 : G_law_pool [toD ns, .int 0] = some (.ok p0) := e0
  obtain ⟨f, p1, e1, hf, hp1⟩ := take_ok hp0 (many := 6) (by decide) (log2_small (by decide))
  have e1 : G_law_take p0 [.int 6] = some (.sh (.int (f : Int)), p1) := e1
  simp_all_arith [e0, e1]
  refine wpM_comp (Γ1 := [sD (toD ns), some p1, none, none, none, none, none, none, none, none]) toD (List.range (1 + f)) (fun rest acc Γ => ∃ (pl : O) (ws : List Web), Γ = [sD (toD ns), some pl, none, none, none, none, none, none, none, none] ∧ acc = ws.map shT ∧ Pool pl ∧ (∀ w ∈ ws, Good w) ∧ ws.length + rest.length ≤ 6) (by simp_arith [e1]) rfl ⟨p1, [], rfl, rfl, hp1, (fun w h => by cases h), by rw [List.length_range]; simp; omega⟩ ?_ ?_
  · rintro t rest acc Γ ⟨pl, ws, rfl, rfl, hpl, hg, hlen⟩
    rw [List.length_cons] at hlen
    obtain ⟨f1, p2, e2, hf1, hp2⟩ := take_ok hpl (many := 4) (by decide) (log2_small (by decide))
    have e2 : G_law_take pl [.int 4] = some (.sh (.int (f1 : Int)), p2) := e2
    have i2 : dIx (.list [.int 2, .int 3, .int 6, .int 10]) (.int (f1 : Int)) = some (.int ((([2, 3, 6, 10] : List Nat).getD f1 0 : Nat) : Int)) := by
      have : f1 = 0 ∨ f1 = 1 ∨ f1 = 2 ∨ f1 = 3 := by omega
      rcases this with rfl | rfl | rfl | rfl <;> rfl
    have b2 : 1 ≤ ([2, 3, 6, 10] : List Nat).getD f1 0 ∧ ([2, 3, 6, 10] : List Nat).getD f1 0 ≤ 10 := by
      have : f1 = 0 ∨ f1 = 1 ∨ f1 = 2 ∨ f1 = 3 := by omega
      rcases this with rfl | rfl | rfl | rfl <;> decide
    generalize ([2, 3, 6, 10] : List Nat).getD f1 0 = m at *
    obtain ⟨w, p3, e3, hp3, g, _⟩ := loose_ok hp2 (most := m) (more := 4) b2.1 (by omega) (by decide)
    have e3 : G_law_loose p2 [.int (m : Int), .int 4] = some (.sh (toD w), p3) := e3
    refine ⟨by rw [List.length_map]; omega, _, _, true, by simp_arith [], rfl, .inr ⟨rfl, shT w, _, by simp_arith [den_law_k15_e1, e2, i2, e3, shT], p3, ws ++ [w], by simp_arith [], by rw [List.map_append]; rfl, hp3, fun v hv => ?_, by rw [List.length_append]; show ws.length + 1 + _ ≤ _; omega⟩⟩
    rcases List.mem_append.mp hv with q | q
    · exact hg v q
    · rw [List.mem_singleton.mp q]; exact g
  · rintro l Γ ⟨pl, ws, rfl, rfl, hpl, hw, hlen⟩
    rw [List.length_nil, Nat.add_zero] at hlen
    have hl : ws.length ≤ 12 := by omega
    have er1 : ∀ l : List Nat, (tO l).erase = toD l := tO_erase
    simp_all_arith []
    refine k15_draw hw hl hpl fun r pl1 hpl1 hr => ?_
    have mn : bMin [.int (ns.length : Int), .int 63] = some (.int ((min ns.length 63 : Nat) : Int)) := x_minN ns.length 63
    have mx : bMax [.int 4, .int ((min ns.length 63 : Nat) : Int)] = some (.int ((max 4 (min ns.length 63) : Nat) : Int)) := x_maxN 4 _
    have hm : max 4 (min ns.length 63) ≤ 63 := by omega
    generalize max 4 (min ns.length 63) = m at *
    simp_all_arith [er1, mn, mx]
    refine wp_forE toD (List.range' 1 (m - 1)) (fun rest Γ => ∃ (pl : O) (r : List Nat) (bd : D) (s5 s6 s7 : Option O), Γ = [sD (toD ns), some pl, sD (toD ws), sD (toD r), sD bd, s5, s6, s7, none, none] ∧ Row ws r ∧ (bd = .none ∨ ∃ b j p, bd = toD b ∧ Row ws b ∧ Step ws b r j p) ∧ ∀ t ∈ rest, t < 64) rfl ⟨_, r, _, _, _, _, rfl, hr, .inl rfl, fun t ht => by rw [List.mem_range'_1] at ht; omega⟩ ?_ ?_
    · rintro t rest Γ ⟨pl, r, bd, s5, s6, s7, rfl, hr, hb, ht⟩
      have ht1 := ht t (List.mem_cons_self ..)
      have ht2 : ∀ t ∈ rest, t < 64 := fun t h => ht t (List.mem_cons_of_mem _ h)
      obtain ⟨p2, e2, hp2⟩ := pool_ok ns (k := t) (by omega)
      obtain ⟨p3, e3, hp3⟩ := row_right_ok hp2 hw hl hr
      have hlen : (srt (bes ws r)).length = (bes ws r).length := srt_len _
      have hB := bes_len hw hl r
      rw [← hlen] at hB
      have hmem : ∀ s ∈ srt (bes ws r), ∃ k q, Step ws r s k q := fun s hs => (mem_bes hw hr.len).mp (mem_srt.mp hs)
      generalize srt (bes ws r) = B at *
      refine ⟨_, by simp_arith [], ?_⟩
      unfold den_law_k15_b4
      obtain ⟨f8, p4, e4, hf8, hp4⟩ := take_ok hp3 (many := 8) (by decide) (log2_small (by decide))
      have e4 : G_law_take p3 [.int 8] = some (.sh (.int (f8 : Int)), p4) := e4
      by_cases c1 : B = []
      · have q1 : dEq (toD B) (.list []) = some (.bool true) := (t_eq B []).trans (by rw [decide_eq_true c1])
        simp_all_arith [e2, e3, q1]
        refine k15_draw hw hl hp3 fun r' pl1 hpl1 hr' => ?_
        simp_all_arith [er1]
        exact ⟨_, r', _, _, _, _, rfl, hr', .inl rfl, ht2⟩
      · have q1 : dEq (toD B) (.list []) = some (.bool false) := (t_eq B []).trans (by rw [decide_eq_false c1])
        by_cases c2 : f8 = 0
        · have q2 : dEq (.int (f8 : Int)) (.int 0) = some (.bool true) := (t_eq f8 0).trans (by rw [decide_eq_true c2])
          simp_all_arith [e2, e3, q1, e4, q2]
          refine k15_draw hw hl hp4 fun r' pl1 hpl1 hr' => ?_
          simp_all_arith [er1]
          exact ⟨_, r', _, _, _, _, rfl, hr', .inl rfl, ht2⟩
        · have q2 : dEq (.int (f8 : Int)) (.int 0) = some (.bool false) := (t_eq f8 0).trans (by rw [decide_eq_false c2])
          obtain ⟨f, p5, e5, hf, hp5⟩ := take_ok hp4 (many := B.length) (List.length_pos_iff.mpr c1) (log2_small (by omega))
          have i1 : B[f]? = some (B[f]'hf) := List.getElem?_eq_getElem hf
          obtain ⟨k, q, st⟩ := hmem _ (List.getElem_mem hf)
          generalize B[f]'hf = s at *
          have hs := st.row hw hr
          rcases hb with rfl | ⟨b, j, p, rfl, hb, st0⟩
          · simp_all_arith [e2, e3, q1, e4, q2, e5, i1, isnNN]
            exact ⟨_, s, _, _, _, _, rfl, hs, .inr ⟨r, k, q, rfl, hr, st⟩, ht2⟩
          · have sq := square_ok hw hl hb hr hs st0 st
            simp_all_arith [e2, e3, q1, e4, q2, e5, i1, isnN, sq]
            exact ⟨_, s, _, _, _, _, rfl, hs, .inr ⟨r, k, q, rfl, hr, st⟩, ht2⟩
    · rintro Γ ⟨pl, r, bd, s5, s6, s7, rfl, hr, hb, _⟩
      simp_all_arith []
      rfl
end WT
namespace Xk15
open PySem PySem.Spec PyProof.Rows L2 DS
/-! ### the text -/
def topS (i : Nat) : Stmt := PySem.Challenge.pw_webtimes_k15_whole_walks_among_rows.main.body.getD i (.Pass ⟨0, 0, 0, 0⟩)
abbrev s__law_pool : Stmt := topS 29
def N__law_pool : List Str := ["script", "k", "cell", "number", "great"]
def P__law_pool : List Str := ["script", "k"]
theorem sc__law_pool : FnScope N__law_pool P__law_pool (defScope s__law_pool) := ⟨rfl, rfl, rfl, by decide +kernel, rfl, by decide +kernel, by decide +kernel⟩
abbrev s__law_take : Stmt := topS 30
def N__law_take : List Str := ["pool", "many", "found"]
def P__law_take : List Str := ["pool", "many"]
theorem sc__law_take : FnScope N__law_take P__law_take (defScope s__law_take) := ⟨rfl, rfl, rfl, by decide +kernel, rfl, by decide +kernel, by decide +kernel⟩
abbrev s__law_web : Stmt := topS 31
def N__law_web : List Str := ["pool", "most", "more", "many", "names", "order", "pairs", "k", "ties", "one", "other"]
def P__law_web : List Str := ["pool", "most", "more"]
theorem sc__law_web : FnScope N__law_web P__law_web (defScope s__law_web) := ⟨rfl, rfl, rfl, by decide +kernel, rfl, by decide +kernel, by decide +kernel⟩
abbrev s__law_loose : Stmt := topS 32
def N__law_loose : List Str := ["pool", "most", "more", "many", "ties", "tie"]
def P__law_loose : List Str := ["pool", "most", "more"]
theorem sc__law_loose : FnScope N__law_loose P__law_loose (defScope s__law_loose) := ⟨rfl, rfl, rfl, by decide +kernel, rfl, by decide +kernel, by decide +kernel⟩
abbrev s_is_whole : Stmt := topS 8
def N_is_whole : List Str := ["thing"]
def P_is_whole : List Str := ["thing"]
theorem sc_is_whole : FnScope N_is_whole P_is_whole (defScope s_is_whole) := ⟨rfl, rfl, rfl, by decide +kernel, rfl, by decide +kernel, by decide +kernel⟩
abbrev s_is_within : Stmt := topS 9
def N_is_within : List Str := ["thing", "least", "most"]
def P_is_within : List Str := ["thing", "least", "most"]
theorem sc_is_within : FnScope N_is_within P_is_within (defScope s_is_within) := ⟨rfl, rfl, rfl, by decide +kernel, rfl, by decide +kernel, by decide +kernel⟩
abbrev s_is_tie : Stmt := topS 10
def N_is_tie : List Str := ["many", "thing"]
def P_is_tie : List Str := ["many", "thing"]
theorem sc_is_tie : FnScope N_is_tie P_is_tie (defScope s_is_tie) := ⟨rfl, rfl, rfl, by decide +kernel, rfl, by decide +kernel, by decide +kernel⟩
abbrev s_look_at_web : Stmt := topS 11
def N_look_at_web : List Str := ["thing", "many", "ties", "ahead", "number", "tie"]
def P_look_at_web : List Str := ["thing"]
theorem sc_look_at_web : FnScope N_look_at_web P_look_at_web (defScope s_look_at_web) := ⟨rfl, rfl, rfl, by decide +kernel, rfl, by decide +kernel, by decide +kernel⟩
abbrev s_look_at_webs : Stmt := topS 15
def N_look_at_webs : List Str := ["thing", "number", "web"]
def P_look_at_webs : List Str := ["thing"]
theorem sc_look_at_webs : FnScope N_look_at_webs P_look_at_webs (defScope s_look_at_webs) := ⟨rfl, rfl, rfl, by decide +kernel, rfl, by decide +kernel, by decide +kernel⟩
abbrev s_is_row_in : Stmt := topS 16
def N_is_row_in : List Str := ["webs", "thing", "place", "web"]
def P_is_row_in : List Str := ["webs", "thing"]
theorem sc_is_row_in : FnScope N_is_row_in P_is_row_in (defScope s_is_row_in) := ⟨rfl, rfl, rfl, by decide +kernel, rfl, by decide +kernel, by decide +kernel⟩
abbrev s_is_row : Stmt := topS 17
def N_is_row : List Str := ["webs", "thing"]
def P_is_row : List Str := ["webs", "thing"]
theorem sc_is_row : FnScope N_is_row P_is_row (defScope s_is_row) := ⟨rfl, rfl, rfl, by decide +kernel, rfl, by decide +kernel, by decide +kernel⟩
abbrev s_look_at_row : Stmt := topS 18
def N_look_at_row : List Str := ["webs", "thing"]
def P_look_at_row : List Str := ["webs", "thing"]
theorem sc_look_at_row : FnScope N_look_at_row P_look_at_row (defScope s_look_at_row) := ⟨rfl, rfl, rfl, by decide +kernel, rfl, by decide +kernel, by decide +kernel⟩
abbrev s_number_in : Stmt := topS 20
def N_number_in : List Str := ["webs", "row", "found", "place", "web"]
def P_number_in : List Str := ["webs", "row"]
theorem sc_number_in : FnScope N_number_in P_number_in (defScope s_number_in) := ⟨rfl, rfl, rfl, by decide +kernel, rfl, by decide +kernel, by decide +kernel⟩
abbrev s_number_of : Stmt := topS 22
def N_number_of : List Str := ["webs", "row"]
def P_number_of : List Str := ["webs", "row"]
theorem sc_number_of : FnScope N_number_of P_number_of (defScope s_number_of) := ⟨rfl, rfl, rfl, by decide +kernel, rfl, by decide +kernel, by decide +kernel⟩
abbrev s_places_in : Stmt := topS 19
def N_places_in : List Str := ["webs", "found", "many", "ties"]
def P_places_in : List Str := ["webs"]
theorem sc_places_in : FnScope N_places_in P_places_in (defScope s_places_in) := ⟨rfl, rfl, rfl, by decide +kernel, rfl, by decide +kernel, by decide +kernel⟩
abbrev s_row_in : Stmt := topS 21
def N_row_in : List Str := ["webs", "number", "row", "many", "ties"]
def P_row_in : List Str := ["webs", "number"]
theorem sc_row_in : FnScope N_row_in P_row_in (defScope s_row_in) := ⟨rfl, rfl, rfl, by decide +kernel, rfl, by decide +kernel, by decide +kernel⟩
abbrev s_row_of : Stmt := topS 23
def N_row_of : List Str := ["webs", "number"]
def P_row_of : List Str := ["webs", "number"]
theorem sc_row_of : FnScope N_row_of P_row_of (defScope s_row_of) := ⟨rfl, rfl, rfl, by decide +kernel, rfl, by decide +kernel, by decide +kernel⟩
abbrev s_tied_in : Stmt := topS 24
def N_tied_in : List Str := ["webs", "one", "other", "unlike", "k"]
def P_tied_in : List Str := ["webs", "one", "other"]
theorem sc_tied_in : FnScope N_tied_in P_tied_in (defScope s_tied_in) := ⟨rfl, rfl, rfl, by decide +kernel, rfl, by decide +kernel, by decide +kernel⟩
abbrev s_rows_tied : Stmt := topS 25
def N_rows_tied : List Str := ["webs", "one", "other"]
def P_rows_tied : List Str := ["webs", "one", "other"]
theorem sc_rows_tied : FnScope N_rows_tied P_rows_tied (defScope s_rows_tied) := ⟨rfl, rfl, rfl, by decide +kernel, rfl, by decide +kernel, by decide +kernel⟩
abbrev s_beside_all : Stmt := topS 12
def N_beside_all : List Str := ["web", "found", "one", "other", "place", "places"]
def P_beside_all : List Str := ["web"]
theorem sc_beside_all : FnScope N_beside_all P_beside_all (defScope s_beside_all) := ⟨rfl, rfl, rfl, by decide +kernel, rfl, by decide +kernel, by decide +kernel⟩
abbrev s_beside_by : Stmt := topS 26
def N_beside_by : List Str := ["lists", "row", "found", "k", "place", "other"]
def P_beside_by : List Str := ["lists", "row"]
theorem sc_beside_by : FnScope N_beside_by P_beside_by (defScope s_beside_by) := ⟨rfl, rfl, rfl, by decide +kernel, rfl, by decide +kernel, by decide +kernel⟩
abbrev s_rows_beside : Stmt := topS 27
def N_rows_beside : List Str := ["webs", "row", "web"]
def P_rows_beside : List Str := ["webs", "row"]
theorem sc_rows_beside : FnScope N_rows_beside P_rows_beside (defScope s_rows_beside) := ⟨rfl, rfl, rfl, by decide +kernel, rfl, by decide +kernel, by decide +kernel⟩
abbrev s__law_own : Stmt := topS 33
def N__law_own : List Str := ["webs", "row", "found", "place", "web", "tie"]
def P__law_own : List Str := ["webs", "row"]
theorem sc__law_own : FnScope N__law_own P__law_own (defScope s__law_own) := ⟨rfl, rfl, rfl, by decide +kernel, rfl, by decide +kernel, by decide +kernel⟩
abbrev s__law_web_of : Stmt := topS 34
def N__law_web_of : List Str := ["one", "other", "k"]
def P__law_web_of : List Str := ["one", "other"]
theorem sc__law_web_of : FnScope N__law_web_of P__law_web_of (defScope s__law_web_of) := ⟨rfl, rfl, rfl, by decide +kernel, rfl, by decide +kernel, by decide +kernel⟩
abbrev s__law_row_right : Stmt := topS 35
def N__law_row_right : List Str := ["pool", "webs", "row", "beside", "number", "turn", "other", "later"]
def P__law_row_right : List Str := ["pool", "webs", "row"]
theorem sc__law_row_right : FnScope N__law_row_right P__law_row_right (defScope s__law_row_right) := ⟨rfl, rfl, rfl, by decide +kernel, rfl, by decide +kernel, by decide +kernel⟩
abbrev s__law_square : Stmt := topS 36
def N__law_square : List Str := ["webs", "ahead", "row", "other", "first", "second", "aside"]
def P__law_square : List Str := ["webs", "ahead", "row", "other"]
theorem sc__law_square : FnScope N__law_square P__law_square (defScope s__law_square) := ⟨rfl, rfl, rfl, by decide +kernel, rfl, by decide +kernel, by decide +kernel⟩
abbrev s_law : Stmt := topS 37
def N_law : List Str := ["script", "pool", "webs", "row", "ahead", "k", "beside", "other", "turn", "web"]
def P_law : List Str := ["script"]
theorem sc_law : FnScope N_law P_law (defScope s_law) := ⟨rfl, rfl, rfl, by decide +kernel, rfl, by decide +kernel, by decide +kernel⟩
/-- what the top has written -/
structure Txt (K : PySem.W.Frag) (mg : Str → Option Value) where
  a__law_take : Addr
  fd__law_take : FuncData
  F__law_take : Fun K "_law_take" "_law_take" s__law_take a__law_take fd__law_take
  b__law_take : Binds K fd__law_take P__law_take []
  m__law_take : mg "_law_take" = some (.ref a__law_take)
  a__law_web : Addr
  fd__law_web : FuncData
  F__law_web : Fun K "_law_web" "_law_web" s__law_web a__law_web fd__law_web
  b__law_web : Binds K fd__law_web P__law_web []
  m__law_web : mg "_law_web" = some (.ref a__law_web)
  a_is_whole : Addr
  fd_is_whole : FuncData
  F_is_whole : Fun K "is_whole" "is_whole" s_is_whole a_is_whole fd_is_whole
  b_is_whole : Binds K fd_is_whole P_is_whole []
  m_is_whole : mg "is_whole" = some (.ref a_is_whole)
  a_is_within : Addr
  fd_is_within : FuncData
  F_is_within : Fun K "is_within" "is_within" s_is_within a_is_within fd_is_within
  b_is_within : Binds K fd_is_within P_is_within []
  m_is_within : mg "is_within" = some (.ref a_is_within)
  a_is_tie : Addr
  fd_is_tie : FuncData
  F_is_tie : Fun K "is_tie" "is_tie" s_is_tie a_is_tie fd_is_tie
  b_is_tie : Binds K fd_is_tie P_is_tie []
  m_is_tie : mg "is_tie" = some (.ref a_is_tie)
  a_look_at_web : Addr
  fd_look_at_web : FuncData
  F_look_at_web : Fun K "look_at_web" "look_at_web" s_look_at_web a_look_at_web fd_look_at_web
  b_look_at_web : Binds K fd_look_at_web P_look_at_web []
  m_look_at_web : mg "look_at_web" = some (.ref a_look_at_web)
  a_look_at_webs : Addr
  fd_look_at_webs : FuncData
  F_look_at_webs : Fun K "look_at_webs" "look_at_webs" s_look_at_webs a_look_at_webs fd_look_at_webs
  b_look_at_webs : Binds K fd_look_at_webs P_look_at_webs []
  m_look_at_webs : mg "look_at_webs" = some (.ref a_look_at_webs)
  a_is_row_in : Addr
  fd_is_row_in : FuncData
  F_is_row_in : Fun K "is_row_in" "is_row_in" s_is_row_in a_is_row_in fd_is_row_in
  b_is_row_in : Binds K fd_is_row_in P_is_row_in []
  m_is_row_in : mg "is_row_in" = some (.ref a_is_row_in)
  a_look_at_row : Addr
  fd_look_at_row : FuncData
  F_look_at_row : Fun K "look_at_row" "look_at_row" s_look_at_row a_look_at_row fd_look_at_row
  b_look_at_row : Binds K fd_look_at_row P_look_at_row []
  m_look_at_row : mg "look_at_row" = some (.ref a_look_at_row)
  a_number_in : Addr
  fd_number_in : FuncData
  F_number_in : Fun K "number_in" "number_in" s_number_in a_number_in fd_number_in
  b_number_in : Binds K fd_number_in P_number_in []
  m_number_in : mg "number_in" = some (.ref a_number_in)
  a_row_in : Addr
  fd_row_in : FuncData
  F_row_in : Fun K "row_in" "row_in" s_row_in a_row_in fd_row_in
  b_row_in : Binds K fd_row_in P_row_in []
  m_row_in : mg "row_in" = some (.ref a_row_in)
  a_places_in : Addr
  fd_places_in : FuncData
  F_places_in : Fun K "places_in" "places_in" s_places_in a_places_in fd_places_in
  b_places_in : Binds K fd_places_in P_places_in []
  m_places_in : mg "places_in" = some (.ref a_places_in)
  a_tied_in : Addr
  fd_tied_in : FuncData
  F_tied_in : Fun K "tied_in" "tied_in" s_tied_in a_tied_in fd_tied_in
  b_tied_in : Binds K fd_tied_in P_tied_in []
  m_tied_in : mg "tied_in" = some (.ref a_tied_in)
  a_beside_by : Addr
  fd_beside_by : FuncData
  F_beside_by : Fun K "beside_by" "beside_by" s_beside_by a_beside_by fd_beside_by
  b_beside_by : Binds K fd_beside_by P_beside_by []
  m_beside_by : mg "beside_by" = some (.ref a_beside_by)
  a_beside_all : Addr
  fd_beside_all : FuncData
  F_beside_all : Fun K "beside_all" "beside_all" s_beside_all a_beside_all fd_beside_all
  b_beside_all : Binds K fd_beside_all P_beside_all []
  m_beside_all : mg "beside_all" = some (.ref a_beside_all)
  a_rows_beside : Addr
  fd_rows_beside : FuncData
  F_rows_beside : Fun K "rows_beside" "rows_beside" s_rows_beside a_rows_beside fd_rows_beside
  b_rows_beside : Binds K fd_rows_beside P_rows_beside []
  m_rows_beside : mg "rows_beside" = some (.ref a_rows_beside)
  a_number_of : Addr
  fd_number_of : FuncData
  F_number_of : Fun K "number_of" "number_of" s_number_of a_number_of fd_number_of
  b_number_of : Binds K fd_number_of P_number_of []
  m_number_of : mg "number_of" = some (.ref a_number_of)
  a_rows_tied : Addr
  fd_rows_tied : FuncData
  F_rows_tied : Fun K "rows_tied" "rows_tied" s_rows_tied a_rows_tied fd_rows_tied
  b_rows_tied : Binds K fd_rows_tied P_rows_tied []
  m_rows_tied : mg "rows_tied" = some (.ref a_rows_tied)
  a_row_of : Addr
  fd_row_of : FuncData
  F_row_of : Fun K "row_of" "row_of" s_row_of a_row_of fd_row_of
  b_row_of : Binds K fd_row_of P_row_of []
  m_row_of : mg "row_of" = some (.ref a_row_of)
  a__law_own : Addr
  fd__law_own : FuncData
  F__law_own : Fun K "_law_own" "_law_own" s__law_own a__law_own fd__law_own
  b__law_own : Binds K fd__law_own P__law_own []
  m__law_own : mg "_law_own" = some (.ref a__law_own)
  a_is_row : Addr
  fd_is_row : FuncData
  F_is_row : Fun K "is_row" "is_row" s_is_row a_is_row fd_is_row
  b_is_row : Binds K fd_is_row P_is_row []
  m_is_row : mg "is_row" = some (.ref a_is_row)
  a__law_web_of : Addr
  fd__law_web_of : FuncData
  F__law_web_of : Fun K "_law_web_of" "_law_web_of" s__law_web_of a__law_web_of fd__law_web_of
  b__law_web_of : Binds K fd__law_web_of P__law_web_of []
  m__law_web_of : mg "_law_web_of" = some (.ref a__law_web_of)
  a__law_pool : Addr
  fd__law_pool : FuncData
  F__law_pool : Fun K "_law_pool" "_law_pool" s__law_pool a__law_pool fd__law_pool
  b__law_pool : Binds K fd__law_pool P__law_pool []
  m__law_pool : mg "_law_pool" = some (.ref a__law_pool)
  a__law_loose : Addr
  fd__law_loose : FuncData
  F__law_loose : Fun K "_law_loose" "_law_loose" s__law_loose a__law_loose fd__law_loose
  b__law_loose : Binds K fd__law_loose P__law_loose []
  m__law_loose : mg "_law_loose" = some (.ref a__law_loose)
  a__law_row_right : Addr
  fd__law_row_right : FuncData
  F__law_row_right : Fun K "_law_row_right" "_law_row_right" s__law_row_right a__law_row_right fd__law_row_right
  b__law_row_right : Binds K fd__law_row_right P__law_row_right []
  m__law_row_right : mg "_law_row_right" = some (.ref a__law_row_right)
  a__law_square : Addr
  fd__law_square : FuncData
  F__law_square : Fun K "_law_square" "_law_square" s__law_square a__law_square fd__law_square
  b__law_square : Binds K fd__law_square P__law_square []
  m__law_square : mg "_law_square" = some (.ref a__law_square)
  a_law : Addr
  fd_law : FuncData
  F_law : Fun K "law" "law" s_law a_law fd_law
  b_law : Binds K fd_law P_law []
  m_law : mg "law" = some (.ref a_law)
  v_MOST_PLACES : Value
  m_MOST_PLACES : mg "MOST_PLACES" = some v_MOST_PLACES
  q_MOST_PLACES : Cst v_MOST_PLACES (.int 40)
  v_MOST_TIES : Value
  m_MOST_TIES : mg "MOST_TIES" = some v_MOST_TIES
  q_MOST_TIES : Cst v_MOST_TIES (.int 120)
  v_MOST_WEBS : Value
  m_MOST_WEBS : mg "MOST_WEBS" = some v_MOST_WEBS
  q_MOST_WEBS : Cst v_MOST_WEBS (.int 12)
  z_len : mg "len" = none
  z_max : mg "max" = none
  z_list : mg "list" = none
  z_range : mg "range" = none
  z_sorted : mg "sorted" = none
  z_min : mg "min" = none
  z_isinstance : mg "isinstance" = none
  z_int : mg "int" = none
  z_bool : mg "bool" = none
  z_tuple : mg "tuple" = none
  z_enumerate : mg "enumerate" = none
  z_all : mg "all" = none
  z_zip : mg "zip" = none
end Xk15
namespace Xk15
open PySem PySem.Spec PyProof.Rows L2 DS
section
variable {P : Program} {w : World} {K : PySem.W.Frag} {mg : Str → Option Value} {base : Heap}
theorem raw__law_pool (T : Txt K mg) : FnG P w K mg base 1 T.a__law_pool T.fd__law_pool P__law_pool (spF mg 2 (runF 5 WT.den_law_pool)) := by
  have nd := sc__law_pool.nd
  refine okF (k := 0) T.F__law_pool sc__law_pool fun cdv A outer s H E hr hgd => ?_
  have hu := hu100 hr
  have hu1 := hu1 hr
  exact (dss_cons (ds_set 2 (DX.o dx_int) nd (hx := Or.inl rfl) (hf := Or.inr rfl))
      (dss_cons (ds_if (dt_cmp (od_lt hu) (dx_name 1 (hv := Or.inl rfl)) (dx_callB cd_lenX T.z_len (by decide +kernel) (da_cons (dx_name 0 (hv := Or.inl rfl)) da_nil))) (dss_one (ds_set 2 (DX.o (dx_ixX hu1 (dx_name 0 (hv := Or.inl rfl)) (dx_name 1 (hv := Or.inl rfl)))) nd (hx := Or.inl rfl) (hf := Or.inr rfl)))
      dss_nil)
      (dss_cons (ds_set 3 (DX.o (dx_bin od_mod (dx_bin od_add (dx_bin od_add (dx_bin od_add (dx_callB (cd_max rfl hu) T.z_max (by decide +kernel) (da_cons (dx_name 2 (hv := Or.inl rfl)) (da_cons (dx_bin od_sub (dx_neg dx_int) (dx_name 2 (hv := Or.inl rfl))) da_nil))) (dx_bin od_mul (dx_bin od_mul dx_int (dx_name 1 (hv := Or.inl rfl))) (dx_name 1 (hv := Or.inl rfl)))) (dx_bin od_mul dx_int (dx_name 1 (hv := Or.inl rfl)))) dx_int) dx_int)) nd (hx := Or.inl rfl) (hf := Or.inr rfl))
      (dss_cons (ds_set 4 (DX.o dx_int) nd (hx := Or.inl rfl) (hf := Or.inr rfl))
      (dss_cons (ds_if (dt_cmp (od_ge hu) (dx_name 2 (hv := Or.inl rfl)) (dx_bin od_pow dx_int dx_int)) (dss_one (ds_set 4 (DX.o (dx_name 2 (hv := Or.inl rfl))) nd (hx := Or.inl rfl) (hf := Or.inr rfl)))
      dss_nil)
      (dss_one (ds_ret (de_lst (dao_cons (DX.o (dx_name 4 (hv := Or.inl rfl))) (dao_cons (DX.o (dx_bin od_mod (dx_bin od_mul (dx_name 3 (hv := Or.inl rfl)) dx_int) dx_int)) dao_nil))))))))))
theorem ok__law_pool (T : Txt K mg) : FnG P w K mg base 1 T.a__law_pool T.fd__law_pool P__law_pool (spF mg 2 WT.G_law_pool) := raw__law_pool T
theorem raw__law_take (T : Txt K mg) : FnG P w K mg base 1 T.a__law_take T.fd__law_take P__law_take (spM mg 2 (runM 3 WT.den_law_take)) := by
  have nd := sc__law_take.nd
  refine okM (k := 0) T.F__law_take sc__law_take fun cdv A outer s H E hr hgd => ?_
  have hu := hu100 hr
  have hu1 := hu1 hr
  exact (dss_cons (ds_if (dt_pure (dt_cmp (od_gt hu) (dx_ixX hu1 (dx_name 0 (hv := Or.inl rfl)) dx_int) dx_int)) (dss_cons (ds_set 2 (DX.o (dx_pure (dx_bin od_mod (dx_ixX hu1 (dx_name 0 (hv := Or.inl rfl)) dx_int) (dx_name 1 (hv := Or.inl rfl))))) nd (hx := Or.inl rfl) (hf := Or.inr rfl))
      (dss_cons (ds_setIx 0 hu1 (DX.o (dx_pure (dx_bin od_div (dx_ixX hu1 (dx_name 0 (hv := Or.inl rfl)) dx_int) (dx_name 1 (hv := Or.inl rfl))))) dx_int (hv := Or.inl rfl))
      (dss_one (ds_ret (de_mv 2 (hv := Or.inl rfl))))))
      dss_nil)
      (dss_cons (ds_setIx 0 hu1 (DX.o (dx_pure (dx_bin od_mod (dx_bin od_add (dx_bin od_mul (dx_ixX hu1 (dx_name 0 (hv := Or.inl rfl)) dx_int) dx_int) dx_int) dx_int))) dx_int (hv := Or.inl rfl))
      (dss_one (ds_ret (DX.o (dx_pure (dx_bin od_mod (dx_bin od_div (dx_bin od_mod (dx_bin od_mul (dx_ixX hu1 (dx_name 0 (hv := Or.inl rfl)) dx_int) (dx_ixX hu1 (dx_name 0 (hv := Or.inl rfl)) dx_int)) dx_int) dx_int) (dx_name 1 (hv := Or.inl rfl)))))))))
theorem ok__law_take (T : Txt K mg) : FnG P w K mg base 1 T.a__law_take T.fd__law_take P__law_take (spM mg 2 WT.G_law_take) := raw__law_take T
theorem raw__law_web (T : Txt K mg) : FnG P w K mg base 2 T.a__law_web T.fd__law_web P__law_web (spM mg 3 (runM 11 WT.den_law_web_3)) := by
  have nd := sc__law_web.nd
  refine okM (k := 1) T.F__law_web sc__law_web fun cdv A outer s H E hr hgd => ?_
  have hu := hu100 hr
  have hu1 := hu1 hr
  exact (dss_cons (ds_set 3 (DX.o (dx_bin od_add dx_int (DE.froze (de_callM 0 (hv := Or.inr (Or.inl rfl)) (n := 2) (ok__law_take T) (hr.mono (by decide)) hgd T.m__law_take T.F__law_take.kp T.b__law_take (da_cons (dx_name 1 (hv := Or.inl rfl)) da_nil))))) nd (hx := Or.inl rfl) (hf := Or.inr rfl))
      (dss_cons (ds_set 4 (de_listRg1 rfl T.z_list T.z_range (dx_name 3 (hv := Or.inl rfl))) nd (hx := Or.inr rfl) (hf := Or.inl rfl))
      (dss_cons (ds_setLcW 5 rfl nd (di_range1 T.z_range (da_cons (dx_name 3 (hv := Or.inl rfl)) da_nil)) (blkOk_by (own := [("k", 7)]) (N := N__law_web) (sc := defScope s__law_web) (by decide +kernel)) (fun _ _ _ _ _ => (dgc_name 7 nd (hx := Or.inl rfl) (hf := Or.inr rfl))) (fun _ _ _ _ _ => dts_nil) (fun _ _ _ _ _ => (de_popAt 4 (DE.froze (de_callM 0 (hv := Or.inr (Or.inl rfl)) (n := 2) (ok__law_take T) (hr.mono (by decide)) hgd T.m__law_take T.F__law_take.kp T.b__law_take (da_cons (dx_pure (dx_callB cd_lenX T.z_len (by decide +kernel) (da_cons (dx_name 4 (hv := Or.inr (Or.inl rfl))) da_nil))) da_nil))) (hv := Or.inr (Or.inl rfl)))) (hsw := sw_true rfl rfl rfl (by decide +kernel)))
      (dss_cons (ds_setLcV 6 rfl nd (di_range2 T.z_range (da_cons dx_int (da_cons (dx_name 3 (hv := Or.inl rfl)) da_nil))) (blkOk_by (own := [("k", 7)]) (N := N__law_web) (sc := defScope s__law_web) (by decide +kernel)) (fun _ _ _ _ _ => (dgc_name 7 nd (hx := Or.inl rfl) (hf := Or.inr rfl))) (fun _ _ _ _ _ => dts_nil) (fun _ _ _ _ _ => (de_tup (dao_cons (DX.o (dx_name 7 (hv := Or.inl rfl))) (dao_cons (de_callM 0 (hv := Or.inr (Or.inl rfl)) (n := 2) (ok__law_take T) (hr.mono (by decide)) hgd T.m__law_take T.F__law_take.kp T.b__law_take (da_cons (dx_name 7 (hv := Or.inl rfl)) da_nil)) dao_nil)))) (hsw := sw_true rfl rfl rfl (by decide +kernel)))
      (dss_cons (ds_for rfl (di_range1 T.z_range (da_cons (DE.froze (de_callM 0 (hv := Or.inr (Or.inl rfl)) (n := 2) (ok__law_take T) (hr.mono (by decide)) hgd T.m__law_take T.F__law_take.kp T.b__law_take (da_cons (dx_bin od_add (dx_name 2 (hv := Or.inl rfl)) dx_int) da_nil))) da_nil)) (dg_name 7 nd (hx := Or.inl rfl) (hf := Or.inr rfl))
      (dss_one (ds_expr (de_append 6 (de_tup (dao_cons (de_callM 0 (hv := Or.inr (Or.inl rfl)) (n := 2) (ok__law_take T) (hr.mono (by decide)) hgd T.m__law_take T.F__law_take.kp T.b__law_take (da_cons (dx_name 3 (hv := Or.inl rfl)) da_nil)) (dao_cons (de_callM 0 (hv := Or.inr (Or.inl rfl)) (n := 2) (ok__law_take T) (hr.mono (by decide)) hgd T.m__law_take T.F__law_take.kp T.b__law_take (da_cons (dx_name 3 (hv := Or.inl rfl)) da_nil)) dao_nil))) (hv := Or.inl rfl)))))
      (dss_cons (ds_set 8 de_dnew nd (hx := Or.inl rfl) (hf := Or.inr rfl))
      (dss_cons (ds_for rfl (di_val (dx_name 6 (hv := Or.inl rfl))) (dg_tup rfl (dgs_cons (dg_name 9 nd (hx := Or.inl rfl) (hf := Or.inr rfl)) (dgs_cons (dg_name 10 nd (hx := Or.inl rfl) (hf := Or.inr rfl)) dgs_nil)))
      (dss_one (ds_if (dt_cmp (od_ne hu) (dx_name 9 (hv := Or.inl rfl)) (dx_name 10 (hv := Or.inl rfl))) (dss_one (ds_setIx 8 hu1 (DX.o dx_bool) (dx_tup (da_cons (dx_callB (cd_min rfl hu) T.z_min (by decide +kernel) (da_cons (dx_ixX hu1 (dx_name 5 (hv := Or.inl rfl)) (dx_name 9 (hv := Or.inl rfl))) (da_cons (dx_ixX hu1 (dx_name 5 (hv := Or.inl rfl)) (dx_name 10 (hv := Or.inl rfl))) da_nil))) (da_cons (dx_callB (cd_max rfl hu) T.z_max (by decide +kernel) (da_cons (dx_ixX hu1 (dx_name 5 (hv := Or.inl rfl)) (dx_name 9 (hv := Or.inl rfl))) (da_cons (dx_ixX hu1 (dx_name 5 (hv := Or.inl rfl)) (dx_name 10 (hv := Or.inl rfl))) da_nil))) da_nil))) (hv := Or.inl rfl)))
      dss_nil)))
      (dss_one (ds_ret (de_tup (dao_cons (DX.o (dx_name 3 (hv := Or.inl rfl))) (dao_cons (de_callB (co_sorted rfl hu) T.z_sorted (by decide +kernel) (da_cons (dx_name 8 (hv := Or.inl rfl)) da_nil)) dao_nil))))))))))))
theorem ok__law_web (T : Txt K mg) : FnG P w K mg base 2 T.a__law_web T.fd__law_web P__law_web (spM mg 3 WT.G_law_web_3) := raw__law_web T
theorem raw__law_loose (T : Txt K mg) : FnG P w K mg base 3 T.a__law_loose T.fd__law_loose P__law_loose (spM mg 3 (runM 6 WT.den_law_loose)) := by
  have nd := sc__law_loose.nd
  refine okM (k := 2) T.F__law_loose sc__law_loose fun cdv A outer s H E hr hgd => ?_
  have hu := hu100 hr
  have hu1 := hu1 hr
  exact (dss_cons (ds_asg (DE.froze (de_callM 0 (hv := Or.inr (Or.inl rfl)) (n := 3) (ok__law_web T) (hr.mono (by decide)) hgd T.m__law_web T.F__law_web.kp T.b__law_web (da_cons (dx_name 1 (hv := Or.inl rfl)) (da_cons (dx_name 2 (hv := Or.inl rfl)) da_nil)))) (dg_tup rfl (dgs_cons (dg_name 3 nd (hx := Or.inl rfl) (hf := Or.inr rfl)) (dgs_cons (dg_name 4 nd (hx := Or.inl rfl) (hf := Or.inr rfl)) dgs_nil))))
      (dss_cons (ds_if (dt_cmp (od_eq hu) (DE.froze (de_callM 0 (hv := Or.inr (Or.inl rfl)) (n := 2) (ok__law_take T) (hr.mono (by decide)) hgd T.m__law_take T.F__law_take.kp T.b__law_take (da_cons dx_int da_nil))) dx_int) (dss_one (ds_setLcW 4 rfl nd (di_val (dx_name 4 (hv := Or.inl rfl))) (blkOk_by (own := [("tie", 5)]) (N := N__law_loose) (sc := defScope s__law_loose) (by decide +kernel)) (fun _ _ _ _ _ => (dgc_name 5 nd (hx := Or.inl rfl) (hf := Or.inr rfl))) (fun _ _ _ _ _ => (dts_one (dt_cmp (od_gt hu) (DE.froze (de_callM 0 (hv := Or.inr (Or.inl rfl)) (n := 2) (ok__law_take T) (hr.mono (by decide)) hgd T.m__law_take T.F__law_take.kp T.b__law_take (da_cons dx_int da_nil))) dx_int))) (fun _ _ _ _ _ => (DX.o (dx_name 5 (hv := Or.inl rfl)))) (hsw := sw_true rfl rfl rfl (by decide +kernel))))
      dss_nil)
      (dss_one (ds_ret (DX.o (dx_tup (da_cons (dx_name 3 (hv := Or.inl rfl)) (da_cons (dx_name 4 (hv := Or.inl rfl)) da_nil))))))))
theorem ok__law_loose (T : Txt K mg) : FnG P w K mg base 3 T.a__law_loose T.fd__law_loose P__law_loose (spM mg 3 WT.G_law_loose) := raw__law_loose T
theorem raw_is_whole (T : Txt K mg) : FnG P w K mg base 1 T.a_is_whole T.fd_is_whole P_is_whole (spF mg 1 (runF 1 WT.den_is_whole)) := by
  have nd := sc_is_whole.nd
  refine okF (k := 0) T.F_is_whole sc_is_whole fun cdv A outer s H E hr hgd => ?_
  have hu := hu100 hr
  have hu1 := hu1 hr
  exact (dss_one (ds_ret (DX.o (dx_and (dx_isa ci_int (dx_name 0 (hv := Or.inl rfl)) T.z_isinstance T.z_int) (dx_one (dx_not (dx_isa ci_bool (dx_name 0 (hv := Or.inl rfl)) T.z_isinstance T.z_bool)))))))
theorem ok_is_whole (T : Txt K mg) : FnG P w K mg base 1 T.a_is_whole T.fd_is_whole P_is_whole (spF mg 1 WT.G_is_whole) := raw_is_whole T
theorem raw_is_within (T : Txt K mg) : FnG P w K mg base 2 T.a_is_within T.fd_is_within P_is_within (spF mg 3 (runF 3 WT.den_is_within)) := by
  have nd := sc_is_within.nd
  refine okF (k := 1) T.F_is_within sc_is_within fun cdv A outer s H E hr hgd => ?_
  have hu := hu100 hr
  have hu1 := hu1 hr
  exact (dss_one (ds_ret (DX.o (dx_and (DE.froze (de_call (n := 1) (dd := []) (ok_is_whole T) (hr.mono (by decide)) hgd T.m_is_whole T.F_is_whole.kp T.b_is_whole Dfl.nil (da_cons (dx_name 0 (hv := Or.inl rfl)) da_nil))) (dx_one (dx_chain (od_le hu) (od_le hu) (dx_name 1 (hv := Or.inl rfl)) (dx_name 0 (hv := Or.inl rfl)) (dx_name 2 (hv := Or.inl rfl))))))))
theorem ok_is_within (T : Txt K mg) : FnG P w K mg base 2 T.a_is_within T.fd_is_within P_is_within (spF mg 3 WT.G_is_within) := raw_is_within T
theorem raw_is_tie (T : Txt K mg) : FnG P w K mg base 3 T.a_is_tie T.fd_is_tie P_is_tie (spF mg 2 (runF 2 WT.den_is_tie)) := by
  have nd := sc_is_tie.nd
  refine okF (k := 2) T.F_is_tie sc_is_tie fun cdv A outer s H E hr hgd => ?_
  have hu := hu100 hr
  have hu1 := hu1 hr
  exact (dss_cons (ds_if (dt_w (dw_or (dt_not (dt_val (dx_isa ci_tuple (dx_name 1 (hv := Or.inl rfl)) T.z_isinstance T.z_tuple))) (dw_or1 (dt_cmp (od_ne hu) (dx_callB cd_lenX T.z_len (by decide +kernel) (da_cons (dx_name 1 (hv := Or.inl rfl)) da_nil)) dx_int)))) (dss_one (ds_ret (DX.o dx_bool)))
      dss_nil)
      (dss_cons (ds_if (dt_w (dw_or (dt_not (dt_val (DE.froze (de_call (n := 3) (dd := []) (ok_is_within T) (hr.mono (by decide)) hgd T.m_is_within T.F_is_within.kp T.b_is_within Dfl.nil (da_cons (dx_ixX hu1 (dx_name 1 (hv := Or.inl rfl)) dx_int) (da_cons dx_int (da_cons (dx_bin od_sub (dx_name 0 (hv := Or.inl rfl)) dx_int) da_nil))))))) (dw_or1 (dt_not (dt_val (DE.froze (de_call (n := 3) (dd := []) (ok_is_within T) (hr.mono (by decide)) hgd T.m_is_within T.F_is_within.kp T.b_is_within Dfl.nil (da_cons (dx_ixX hu1 (dx_name 1 (hv := Or.inl rfl)) dx_int) (da_cons dx_int (da_cons (dx_bin od_sub (dx_name 0 (hv := Or.inl rfl)) dx_int) da_nil)))))))))) (dss_one (ds_ret (DX.o dx_bool)))
      dss_nil)
      (dss_one (ds_ret (DX.o (dx_cmp (od_lt hu) (dx_ixX hu1 (dx_name 1 (hv := Or.inl rfl)) dx_int) (dx_ixX hu1 (dx_name 1 (hv := Or.inl rfl)) dx_int)))))))
theorem ok_is_tie (T : Txt K mg) : FnG P w K mg base 3 T.a_is_tie T.fd_is_tie P_is_tie (spF mg 2 WT.G_is_tie) := raw_is_tie T
theorem raw_look_at_web (T : Txt K mg) : FnG P w K mg base 4 T.a_look_at_web T.fd_look_at_web P_look_at_web (spF mg 1 (runF 6 WT.den_look_at_web)) := by
  have nd := sc_look_at_web.nd
  refine okF (k := 3) T.F_look_at_web sc_look_at_web fun cdv A outer s H E hr hgd => ?_
  have hu := hu100 hr
  have hu1 := hu1 hr
  exact (dss_cons (ds_if (dt_w (dw_or (dt_not (dt_val (dx_isa ci_tuple (dx_name 0 (hv := Or.inl rfl)) T.z_isinstance T.z_tuple))) (dw_or1 (dt_cmp (od_ne hu) (dx_callB cd_lenX T.z_len (by decide +kernel) (da_cons (dx_name 0 (hv := Or.inl rfl)) da_nil)) dx_int)))) (dss_one ds_never)
      dss_nil)
      (dss_cons (ds_asg (dx_name 0 (hv := Or.inl rfl)) (dg_tup rfl (dgs_cons (dg_name 1 nd (hx := Or.inl rfl) (hf := Or.inr rfl)) (dgs_cons (dg_name 2 nd (hx := Or.inl rfl) (hf := Or.inr rfl)) dgs_nil))))
      (dss_cons (ds_if (dt_not (dt_val (DE.froze (de_call (n := 3) (dd := []) (ok_is_within T) (hr.mono (by decide)) hgd T.m_is_within T.F_is_within.kp T.b_is_within Dfl.nil (da_cons (dx_name 1 (hv := Or.inl rfl)) (da_cons dx_int (da_cons (dx_glob T.m_MOST_PLACES T.q_MOST_PLACES) da_nil))))))) (dss_one ds_never)
      dss_nil)
      (dss_cons (ds_if (dt_w (dw_or (dt_not (dt_val (dx_isa ci_list (dx_name 2 (hv := Or.inl rfl)) T.z_isinstance T.z_list))) (dw_or1 (dt_cmp (od_gt hu) (dx_callB cd_lenX T.z_len (by decide +kernel) (da_cons (dx_name 2 (hv := Or.inl rfl)) da_nil)) (dx_glob T.m_MOST_TIES T.q_MOST_TIES))))) (dss_one ds_never)
      dss_nil)
      (dss_cons (ds_set 3 (DX.o (dx_tup (da_cons (dx_neg dx_int) (da_cons (dx_neg dx_int) da_nil)))) nd (hx := Or.inl rfl) (hf := Or.inr rfl))
      (dss_one (ds_for rfl (di_enum T.z_enumerate (da_cons (dx_name 2 (hv := Or.inl rfl)) da_nil)) (dg_tup rfl (dgs_cons (dg_name 4 nd (hx := Or.inl rfl) (hf := Or.inr rfl)) (dgs_cons (dg_name 5 nd (hx := Or.inl rfl) (hf := Or.inr rfl)) dgs_nil)))
      (dss_cons (ds_if (dt_w (dw_or (dt_not (dt_val (DE.froze (de_call (n := 2) (dd := []) (ok_is_tie T) (hr.mono (by decide)) hgd T.m_is_tie T.F_is_tie.kp T.b_is_tie Dfl.nil (da_cons (dx_name 1 (hv := Or.inl rfl)) (da_cons (dx_name 5 (hv := Or.inl rfl)) da_nil)))))) (dw_or1 (dt_cmp (od_le hu) (dx_name 5 (hv := Or.inl rfl)) (dx_name 3 (hv := Or.inl rfl)))))) (dss_one ds_never)
      dss_nil)
      (dss_one (ds_set 3 (DX.o (dx_name 5 (hv := Or.inl rfl))) nd (hx := Or.inl rfl) (hf := Or.inr rfl)))))))))))
theorem ok_look_at_web (T : Txt K mg) : FnG P w K mg base 4 T.a_look_at_web T.fd_look_at_web P_look_at_web (spF mg 1 WT.G_look_at_web) := raw_look_at_web T
theorem raw_look_at_webs (T : Txt K mg) : FnG P w K mg base 5 T.a_look_at_webs T.fd_look_at_webs P_look_at_webs (spF mg 1 (runF 3 WT.den_look_at_webs)) := by
  have nd := sc_look_at_webs.nd
  refine okF (k := 4) T.F_look_at_webs sc_look_at_webs fun cdv A outer s H E hr hgd => ?_
  have hu := hu100 hr
  have hu1 := hu1 hr
  exact (dss_cons (ds_if (dt_w (dw_or (dt_not (dt_val (dx_isa ci_list (dx_name 0 (hv := Or.inl rfl)) T.z_isinstance T.z_list))) (dw_or1 (dt_cmp (od_gt hu) (dx_callB cd_lenX T.z_len (by decide +kernel) (da_cons (dx_name 0 (hv := Or.inl rfl)) da_nil)) (dx_glob T.m_MOST_WEBS T.q_MOST_WEBS))))) (dss_one ds_never)
      dss_nil)
      (dss_one (ds_for rfl (di_enum T.z_enumerate (da_cons (dx_name 0 (hv := Or.inl rfl)) da_nil)) (dg_tup rfl (dgs_cons (dg_name 1 nd (hx := Or.inl rfl) (hf := Or.inr rfl)) (dgs_cons (dg_name 2 nd (hx := Or.inl rfl) (hf := Or.inr rfl)) dgs_nil)))
      (dss_one (ds_try_thru (dss_one (ds_expr (de_call (n := 1) (dd := []) (ok_look_at_web T) (hr.mono (by decide)) hgd T.m_look_at_web T.F_look_at_web.kp T.b_look_at_web Dfl.nil (da_cons (dx_name 2 (hv := Or.inl rfl)) da_nil)))))))))
theorem ok_look_at_webs (T : Txt K mg) : FnG P w K mg base 5 T.a_look_at_webs T.fd_look_at_webs P_look_at_webs (spF mg 1 WT.G_look_at_webs) := raw_look_at_webs T
theorem raw_is_row_in (T : Txt K mg) : FnG P w K mg base 2 T.a_is_row_in T.fd_is_row_in P_is_row_in (spF mg 2 (runF 4 WT.den_is_row_in)) := by
  have nd := sc_is_row_in.nd
  refine okF (k := 1) T.F_is_row_in sc_is_row_in fun cdv A outer s H E hr hgd => ?_
  have hu := hu100 hr
  have hu1 := hu1 hr
  exact (dss_cons (ds_if (dt_w (dw_or (dt_not (dt_val (dx_isa ci_list (dx_name 1 (hv := Or.inl rfl)) T.z_isinstance T.z_list))) (dw_or1 (dt_cmp (od_ne hu) (dx_callB cd_lenX T.z_len (by decide +kernel) (da_cons (dx_name 1 (hv := Or.inl rfl)) da_nil)) (dx_callB cd_lenX T.z_len (by decide +kernel) (da_cons (dx_name 0 (hv := Or.inl rfl)) da_nil)))))) (dss_one (ds_ret (DX.o dx_bool)))
      dss_nil)
      (dss_one (ds_ret (DX.o (dx_callB (cd_all rfl) T.z_all (by decide +kernel) (da_cons (DE.froze (de_compV rfl nd (di_zip T.z_zip (da_cons (dx_name 1 (hv := Or.inl rfl)) (da_cons (dx_name 0 (hv := Or.inl rfl)) da_nil))) (blkOk_by (own := [("place", 2), ("web", 3)]) (N := N_is_row_in) (sc := defScope s_is_row_in) (by decide +kernel)) (fun _ _ _ _ _ => (dg_tup rfl (dgs_cons (dgc_name 2 nd (hx := Or.inl rfl) (hf := Or.inr rfl)) (dgs_cons (dgc_name 3 nd (hx := Or.inl rfl) (hf := Or.inr rfl)) dgs_nil)))) (fun _ _ _ _ _ => dts_nil) (fun _ _ _ _ _ => (DX.o (dx_and (DE.froze (de_call (n := 1) (dd := []) (ok_is_whole T) (hr.mono (by decide)) hgd T.m_is_whole T.F_is_whole.kp T.b_is_whole Dfl.nil (da_cons (dx_name 2 (hv := Or.inl rfl)) da_nil))) (dx_one (dx_chain (od_le hu) (od_lt hu) dx_int (dx_name 2 (hv := Or.inl rfl)) (dx_ixX hu1 (dx_name 3 (hv := Or.inl rfl)) dx_int)))))))) da_nil))))))
theorem ok_is_row_in (T : Txt K mg) : FnG P w K mg base 2 T.a_is_row_in T.fd_is_row_in P_is_row_in (spF mg 2 WT.G_is_row_in) := raw_is_row_in T
theorem raw_is_row (T : Txt K mg) : FnG P w K mg base 6 T.a_is_row T.fd_is_row P_is_row (spF mg 2 (runF 2 WT.den_is_row)) := by
  have nd := sc_is_row.nd
  refine okF (k := 5) T.F_is_row sc_is_row fun cdv A outer s H E hr hgd => ?_
  have hu := hu100 hr
  have hu1 := hu1 hr
  exact (dss_cons (ds_expr (de_call (n := 1) (dd := []) (ok_look_at_webs T) (hr.mono (by decide)) hgd T.m_look_at_webs T.F_look_at_webs.kp T.b_look_at_webs Dfl.nil (da_cons (dx_name 0 (hv := Or.inl rfl)) da_nil)))
      (dss_one (ds_ret (de_call (n := 2) (dd := []) (ok_is_row_in T) (hr.mono (by decide)) hgd T.m_is_row_in T.F_is_row_in.kp T.b_is_row_in Dfl.nil (da_cons (dx_name 0 (hv := Or.inl rfl)) (da_cons (dx_name 1 (hv := Or.inl rfl)) da_nil))))))
theorem ok_is_row (T : Txt K mg) : FnG P w K mg base 6 T.a_is_row T.fd_is_row P_is_row (spF mg 2 WT.G_is_row) := raw_is_row T
theorem raw_look_at_row (T : Txt K mg) : FnG P w K mg base 3 T.a_look_at_row T.fd_look_at_row P_look_at_row (spF mg 2 (runF 2 WT.den_look_at_row)) := by
  have nd := sc_look_at_row.nd
  refine okF (k := 2) T.F_look_at_row sc_look_at_row fun cdv A outer s H E hr hgd => ?_
  have hu := hu100 hr
  have hu1 := hu1 hr
  exact (dss_one (ds_if (dt_not (dt_val (DE.froze (de_call (n := 2) (dd := []) (ok_is_row_in T) (hr.mono (by decide)) hgd T.m_is_row_in T.F_is_row_in.kp T.b_is_row_in Dfl.nil (da_cons (dx_name 0 (hv := Or.inl rfl)) (da_cons (dx_name 1 (hv := Or.inl rfl)) da_nil)))))) (dss_one ds_never)
      dss_nil))
theorem ok_look_at_row (T : Txt K mg) : FnG P w K mg base 3 T.a_look_at_row T.fd_look_at_row P_look_at_row (spF mg 2 WT.G_look_at_row) := raw_look_at_row T
theorem raw_number_in (T : Txt K mg) : FnG P w K mg base 1 T.a_number_in T.fd_number_in P_number_in (spF mg 2 (runF 5 WT.den_number_in)) := by
  have nd := sc_number_in.nd
  refine okF (k := 0) T.F_number_in sc_number_in fun cdv A outer s H E hr hgd => ?_
  have hu := hu100 hr
  have hu1 := hu1 hr
  exact (dss_cons (ds_set 2 (DX.o dx_int) nd (hx := Or.inl rfl) (hf := Or.inr rfl))
      (dss_cons (ds_for rfl (di_zip T.z_zip (da_cons (dx_name 1 (hv := Or.inl rfl)) (da_cons (dx_name 0 (hv := Or.inl rfl)) da_nil))) (dg_tup rfl (dgs_cons (dg_name 3 nd (hx := Or.inl rfl) (hf := Or.inr rfl)) (dgs_cons (dg_name 4 nd (hx := Or.inl rfl) (hf := Or.inr rfl)) dgs_nil)))
      (dss_one (ds_set 2 (DX.o (dx_bin od_add (dx_bin od_mul (dx_name 2 (hv := Or.inl rfl)) (dx_ixX hu1 (dx_name 4 (hv := Or.inl rfl)) dx_int)) (dx_name 3 (hv := Or.inl rfl)))) nd (hx := Or.inl rfl) (hf := Or.inr rfl))))
      (dss_one (ds_ret (de_mv 2 (hv := Or.inl rfl))))))
theorem ok_number_in (T : Txt K mg) : FnG P w K mg base 1 T.a_number_in T.fd_number_in P_number_in (spF mg 2 WT.G_number_in) := raw_number_in T
theorem raw_number_of (T : Txt K mg) : FnG P w K mg base 6 T.a_number_of T.fd_number_of P_number_of (spF mg 2 (runF 2 WT.den_number_of)) := by
  have nd := sc_number_of.nd
  refine okF (k := 5) T.F_number_of sc_number_of fun cdv A outer s H E hr hgd => ?_
  have hu := hu100 hr
  have hu1 := hu1 hr
  exact (dss_cons (ds_expr (de_call (n := 1) (dd := []) (ok_look_at_webs T) (hr.mono (by decide)) hgd T.m_look_at_webs T.F_look_at_webs.kp T.b_look_at_webs Dfl.nil (da_cons (dx_name 0 (hv := Or.inl rfl)) da_nil)))
      (dss_cons (ds_expr (de_call (n := 2) (dd := []) (ok_look_at_row T) (hr.mono (by decide)) hgd T.m_look_at_row T.F_look_at_row.kp T.b_look_at_row Dfl.nil (da_cons (dx_name 0 (hv := Or.inl rfl)) (da_cons (dx_name 1 (hv := Or.inl rfl)) da_nil))))
      (dss_one (ds_ret (de_call (n := 2) (dd := []) (ok_number_in T) (hr.mono (by decide)) hgd T.m_number_in T.F_number_in.kp T.b_number_in Dfl.nil (da_cons (dx_name 0 (hv := Or.inl rfl)) (da_cons (dx_name 1 (hv := Or.inl rfl)) da_nil)))))))
theorem ok_number_of (T : Txt K mg) : FnG P w K mg base 6 T.a_number_of T.fd_number_of P_number_of (spF mg 2 WT.G_number_of) := raw_number_of T
theorem raw_places_in (T : Txt K mg) : FnG P w K mg base 1 T.a_places_in T.fd_places_in P_places_in (spF mg 1 (runF 4 WT.den_places_in)) := by
  have nd := sc_places_in.nd
  refine okF (k := 0) T.F_places_in sc_places_in fun cdv A outer s H E hr hgd => ?_
  have hu := hu100 hr
  have hu1 := hu1 hr
  exact (dss_cons (ds_set 1 (DX.o dx_int) nd (hx := Or.inl rfl) (hf := Or.inr rfl))
      (dss_cons (ds_for rfl (di_val (dx_name 0 (hv := Or.inl rfl))) (dg_tup rfl (dgs_cons (dg_name 2 nd (hx := Or.inl rfl) (hf := Or.inr rfl)) (dgs_cons (dg_name 3 nd (hx := Or.inl rfl) (hf := Or.inr rfl)) dgs_nil)))
      (dss_one (ds_set 1 (DX.o (dx_bin od_mul (dx_name 1 (hv := Or.inl rfl)) (dx_name 2 (hv := Or.inl rfl)))) nd (hx := Or.inl rfl) (hf := Or.inr rfl))))
      (dss_one (ds_ret (de_mv 1 (hv := Or.inl rfl))))))
theorem ok_places_in (T : Txt K mg) : FnG P w K mg base 1 T.a_places_in T.fd_places_in P_places_in (spF mg 1 WT.G_places_in) := raw_places_in T
theorem raw_row_in (T : Txt K mg) : FnG P w K mg base 1 T.a_row_in T.fd_row_in P_row_in (spF mg 2 (runF 5 WT.den_row_in)) := by
  have nd := sc_row_in.nd
  refine okF (k := 0) T.F_row_in sc_row_in fun cdv A outer s H E hr hgd => ?_
  have hu := hu100 hr
  have hu1 := hu1 hr
  exact (dss_cons (ds_set 2 (de_lst dao_nil) nd (hx := Or.inl rfl) (hf := Or.inr rfl))
      (dss_cons (ds_for rfl (di_val (DE.froze (de_rev (dx_name 0 (hv := Or.inl rfl))))) (dg_tup rfl (dgs_cons (dg_name 3 nd (hx := Or.inl rfl) (hf := Or.inr rfl)) (dgs_cons (dg_name 4 nd (hx := Or.inl rfl) (hf := Or.inr rfl)) dgs_nil)))
      (dss_cons (ds_expr (de_append 2 (DX.o (dx_bin od_mod (dx_name 1 (hv := Or.inl rfl)) (dx_name 3 (hv := Or.inl rfl)))) (hv := Or.inl rfl)))
      (dss_one (ds_set 1 (DX.o (dx_bin od_div (dx_name 1 (hv := Or.inl rfl)) (dx_name 3 (hv := Or.inl rfl)))) nd (hx := Or.inl rfl) (hf := Or.inr rfl)))))
      (dss_one (ds_ret (de_rev (dx_name 2 (hv := Or.inl rfl)))))))
theorem ok_row_in (T : Txt K mg) : FnG P w K mg base 1 T.a_row_in T.fd_row_in P_row_in (spF mg 2 WT.G_row_in) := raw_row_in T
theorem raw_row_of (T : Txt K mg) : FnG P w K mg base 6 T.a_row_of T.fd_row_of P_row_of (spF mg 2 (runF 2 WT.den_row_of)) := by
  have nd := sc_row_of.nd
  refine okF (k := 5) T.F_row_of sc_row_of fun cdv A outer s H E hr hgd => ?_
  have hu := hu100 hr
  have hu1 := hu1 hr
  exact (dss_cons (ds_expr (de_call (n := 1) (dd := []) (ok_look_at_webs T) (hr.mono (by decide)) hgd T.m_look_at_webs T.F_look_at_webs.kp T.b_look_at_webs Dfl.nil (da_cons (dx_name 0 (hv := Or.inl rfl)) da_nil)))
      (dss_cons (ds_if (dt_w (dw_or (dt_not (dt_val (DE.froze (de_call (n := 1) (dd := []) (ok_is_whole T) (hr.mono (by decide)) hgd T.m_is_whole T.F_is_whole.kp T.b_is_whole Dfl.nil (da_cons (dx_name 1 (hv := Or.inl rfl)) da_nil))))) (dw_or1 (dt_not (dt_chain (od_le hu) (od_lt hu) dx_int (dx_name 1 (hv := Or.inl rfl)) (DE.froze (de_call (n := 1) (dd := []) (ok_places_in T) (hr.mono (by decide)) hgd T.m_places_in T.F_places_in.kp T.b_places_in Dfl.nil (da_cons (dx_name 0 (hv := Or.inl rfl)) da_nil)))))))) (dss_one ds_never)
      dss_nil)
      (dss_one (ds_ret (de_call (n := 2) (dd := []) (ok_row_in T) (hr.mono (by decide)) hgd T.m_row_in T.F_row_in.kp T.b_row_in Dfl.nil (da_cons (dx_name 0 (hv := Or.inl rfl)) (da_cons (dx_name 1 (hv := Or.inl rfl)) da_nil)))))))
theorem ok_row_of (T : Txt K mg) : FnG P w K mg base 6 T.a_row_of T.fd_row_of P_row_of (spF mg 2 WT.G_row_of) := raw_row_of T
theorem raw_tied_in (T : Txt K mg) : FnG P w K mg base 1 T.a_tied_in T.fd_tied_in P_tied_in (spF mg 3 (runF 5 WT.den_tied_in)) := by
  have nd := sc_tied_in.nd
  refine okF (k := 0) T.F_tied_in sc_tied_in fun cdv A outer s H E hr hgd => ?_
  have hu := hu100 hr
  have hu1 := hu1 hr
  exact (dss_cons (ds_setLcW 3 rfl nd (di_range1 T.z_range (da_cons (dx_callB cd_lenX T.z_len (by decide +kernel) (da_cons (dx_name 0 (hv := Or.inl rfl)) da_nil)) da_nil)) (blkOk_by (own := [("k", 4)]) (N := N_tied_in) (sc := defScope s_tied_in) (by decide +kernel)) (fun _ _ _ _ _ => (dgc_name 4 nd (hx := Or.inl rfl) (hf := Or.inr rfl))) (fun _ _ _ _ _ => (dts_one (dt_cmp (od_ne hu) (dx_ixX hu1 (dx_name 1 (hv := Or.inr (Or.inl rfl))) (dx_name 4 (hv := Or.inl rfl))) (dx_ixX hu1 (dx_name 2 (hv := Or.inr (Or.inl rfl))) (dx_name 4 (hv := Or.inl rfl)))))) (fun _ _ _ _ _ => (DX.o (dx_name 4 (hv := Or.inl rfl)))) (hsw := sw_true rfl rfl rfl (by decide +kernel)))
      (dss_cons (ds_if (dt_cmp (od_ne hu) (dx_callB cd_lenX T.z_len (by decide +kernel) (da_cons (dx_name 3 (hv := Or.inl rfl)) da_nil)) dx_int) (dss_one (ds_ret (DX.o dx_bool)))
      dss_nil)
      (dss_cons (ds_set 4 (DX.o (dx_ixX hu1 (dx_name 3 (hv := Or.inl rfl)) dx_int)) nd (hx := Or.inl rfl) (hf := Or.inr rfl))
      (dss_one (ds_ret (DX.o (dx_cmp (od_inX hu) (dx_tup (da_cons (dx_callB (cd_min rfl hu) T.z_min (by decide +kernel) (da_cons (dx_ixX hu1 (dx_name 1 (hv := Or.inr (Or.inl rfl))) (dx_name 4 (hv := Or.inl rfl))) (da_cons (dx_ixX hu1 (dx_name 2 (hv := Or.inr (Or.inl rfl))) (dx_name 4 (hv := Or.inl rfl))) da_nil))) (da_cons (dx_callB (cd_max rfl hu) T.z_max (by decide +kernel) (da_cons (dx_ixX hu1 (dx_name 1 (hv := Or.inr (Or.inl rfl))) (dx_name 4 (hv := Or.inl rfl))) (da_cons (dx_ixX hu1 (dx_name 2 (hv := Or.inr (Or.inl rfl))) (dx_name 4 (hv := Or.inl rfl))) da_nil))) da_nil))) (dx_ixX hu1 (dx_ixX hu1 (dx_name 0 (hv := Or.inl rfl)) (dx_name 4 (hv := Or.inl rfl))) dx_int))))))))
theorem ok_tied_in (T : Txt K mg) : FnG P w K mg base 1 T.a_tied_in T.fd_tied_in P_tied_in (spF mg 3 WT.G_tied_in) := raw_tied_in T
theorem raw_rows_tied (T : Txt K mg) : FnG P w K mg base 6 T.a_rows_tied T.fd_rows_tied P_rows_tied (spF mg 3 (runF 3 WT.den_rows_tied)) := by
  have nd := sc_rows_tied.nd
  refine okF (k := 5) T.F_rows_tied sc_rows_tied fun cdv A outer s H E hr hgd => ?_
  have hu := hu100 hr
  have hu1 := hu1 hr
  exact (dss_cons (ds_expr (de_call (n := 1) (dd := []) (ok_look_at_webs T) (hr.mono (by decide)) hgd T.m_look_at_webs T.F_look_at_webs.kp T.b_look_at_webs Dfl.nil (da_cons (dx_name 0 (hv := Or.inl rfl)) da_nil)))
      (dss_cons (ds_expr (de_call (n := 2) (dd := []) (ok_look_at_row T) (hr.mono (by decide)) hgd T.m_look_at_row T.F_look_at_row.kp T.b_look_at_row Dfl.nil (da_cons (dx_name 0 (hv := Or.inl rfl)) (da_cons (dx_name 1 (hv := Or.inl rfl)) da_nil))))
      (dss_cons (ds_expr (de_call (n := 2) (dd := []) (ok_look_at_row T) (hr.mono (by decide)) hgd T.m_look_at_row T.F_look_at_row.kp T.b_look_at_row Dfl.nil (da_cons (dx_name 0 (hv := Or.inl rfl)) (da_cons (dx_name 2 (hv := Or.inl rfl)) da_nil))))
      (dss_one (ds_ret (de_call (n := 3) (dd := []) (ok_tied_in T) (hr.mono (by decide)) hgd T.m_tied_in T.F_tied_in.kp T.b_tied_in Dfl.nil (da_cons (dx_name 0 (hv := Or.inl rfl)) (da_cons (dx_name 1 (hv := Or.inl rfl)) (da_cons (dx_name 2 (hv := Or.inl rfl)) da_nil)))))))))
theorem ok_rows_tied (T : Txt K mg) : FnG P w K mg base 6 T.a_rows_tied T.fd_rows_tied P_rows_tied (spF mg 3 WT.G_rows_tied) := raw_rows_tied T
theorem raw_beside_all (T : Txt K mg) : FnG P w K mg base 1 T.a_beside_all T.fd_beside_all P_beside_all (spF mg 1 (runF 6 WT.den_beside_all)) := by
  have nd := sc_beside_all.nd
  refine okF (k := 0) T.F_beside_all sc_beside_all fun cdv A outer s H E hr hgd => ?_
  have hu := hu100 hr
  have hu1 := hu1 hr
  exact (dss_cons (ds_setLcV 1 rfl nd (di_range1 T.z_range (da_cons (dx_ixX hu1 (dx_name 0 (hv := Or.inl rfl)) dx_int) da_nil)) (blkOk_by (own := [("place", 4)]) (N := N_beside_all) (sc := defScope s_beside_all) (by decide +kernel)) (fun _ _ _ _ _ => (dgc_name 4 nd (hx := Or.inl rfl) (hf := Or.inr rfl))) (fun _ _ _ _ _ => dts_nil) (fun _ _ _ _ _ => (de_lst dao_nil)) (hsw := sw_true rfl rfl rfl (by decide +kernel)))
      (dss_cons (ds_for rfl (di_val (dx_ixX hu1 (dx_name 0 (hv := Or.inl rfl)) dx_int)) (dg_tup rfl (dgs_cons (dg_name 2 nd (hx := Or.inl rfl) (hf := Or.inr rfl)) (dgs_cons (dg_name 3 nd (hx := Or.inl rfl) (hf := Or.inr rfl)) dgs_nil)))
      (dss_cons (ds_expr (de_appAt 1 hu1 (still_hid (dx_name 2 (hv := Or.inl rfl))) (still_hid (dx_name 3 (hv := Or.inl rfl))) (hv := Or.inl rfl)))
      (dss_one (ds_expr (de_appAt 1 hu1 (still_hid (dx_name 3 (hv := Or.inl rfl))) (still_hid (dx_name 2 (hv := Or.inl rfl))) (hv := Or.inl rfl))))))
      (dss_one (ds_ret (de_compV rfl nd (di_val (dx_name 1 (hv := Or.inl rfl))) (blkOk_by (own := [("places", 5)]) (N := N_beside_all) (sc := defScope s_beside_all) (by decide +kernel)) (fun _ _ _ _ _ => (dgc_name 5 nd (hx := Or.inl rfl) (hf := Or.inr rfl))) (fun _ _ _ _ _ => dts_nil) (fun _ _ _ _ _ => (de_callB (co_sorted rfl hu) T.z_sorted (by decide +kernel) (da_cons (dx_name 5 (hv := Or.inl rfl)) da_nil))))))))
theorem ok_beside_all (T : Txt K mg) : FnG P w K mg base 1 T.a_beside_all T.fd_beside_all P_beside_all (spF mg 1 WT.G_beside_all) := raw_beside_all T
theorem raw_beside_by (T : Txt K mg) : FnG P w K mg base 1 T.a_beside_by T.fd_beside_by P_beside_by (spF mg 2 (runF 6 WT.den_beside_by)) := by
  have nd := sc_beside_by.nd
  refine okF (k := 0) T.F_beside_by sc_beside_by fun cdv A outer s H E hr hgd => ?_
  have hu := hu100 hr
  have hu1 := hu1 hr
  exact (dss_cons (ds_set 2 (de_lst dao_nil) nd (hx := Or.inl rfl) (hf := Or.inr rfl))
      (dss_cons (ds_for rfl (di_enum T.z_enumerate (da_cons (dx_name 1 (hv := Or.inr (Or.inl rfl))) da_nil)) (dg_tup rfl (dgs_cons (dg_name 3 nd (hx := Or.inr rfl) (hf := Or.inl rfl)) (dgs_cons (dg_name 4 nd (hx := Or.inl rfl) (hf := Or.inr rfl)) dgs_nil)))
      (dss_one (ds_expr (de_extend 2 (de_compV rfl nd (di_val (dx_ixX hu1 (dx_ixX hu1 (dx_name 0 (hv := Or.inl rfl)) (dx_name 3 (hv := Or.inr (Or.inl rfl)))) (dx_name 4 (hv := Or.inl rfl)))) (blkOk_by (own := [("other", 5)]) (N := N_beside_by) (sc := defScope s_beside_by) (by decide +kernel)) (fun _ _ _ _ _ => (dgc_name 5 nd (hx := Or.inl rfl) (hf := Or.inr rfl))) (fun _ _ _ _ _ => dts_nil) (fun _ _ _ _ _ => (DX.o (dx_bin od_add (dx_bin od_add (DE.froze (de_slice (dx_name 1 (hv := Or.inr (Or.inl rfl))) dop_none (dop_some (dx_name 3 (hv := Or.inr (Or.inl rfl)))))) (dx_lst (da_cons (dx_name 5 (hv := Or.inl rfl)) da_nil))) (DE.froze (de_slice (dx_name 1 (hv := Or.inr (Or.inl rfl))) (dop_some (dx_bin od_add (dx_name 3 (hv := Or.inr (Or.inl rfl))) dx_int)) dop_none)))))) (hv := Or.inl rfl)))))
      (dss_one (ds_ret (de_callB (co_sorted rfl hu) T.z_sorted (by decide +kernel) (da_cons (dx_name 2 (hv := Or.inl rfl)) da_nil))))))
theorem ok_beside_by (T : Txt K mg) : FnG P w K mg base 1 T.a_beside_by T.fd_beside_by P_beside_by (spF mg 2 WT.G_beside_by) := raw_beside_by T
theorem raw_rows_beside (T : Txt K mg) : FnG P w K mg base 6 T.a_rows_beside T.fd_rows_beside P_rows_beside (spF mg 2 (runF 3 WT.den_rows_beside)) := by
  have nd := sc_rows_beside.nd
  refine okF (k := 5) T.F_rows_beside sc_rows_beside fun cdv A outer s H E hr hgd => ?_
  have hu := hu100 hr
  have hu1 := hu1 hr
  exact (dss_cons (ds_expr (de_call (n := 1) (dd := []) (ok_look_at_webs T) (hr.mono (by decide)) hgd T.m_look_at_webs T.F_look_at_webs.kp T.b_look_at_webs Dfl.nil (da_cons (dx_name 0 (hv := Or.inl rfl)) da_nil)))
      (dss_cons (ds_expr (de_call (n := 2) (dd := []) (ok_look_at_row T) (hr.mono (by decide)) hgd T.m_look_at_row T.F_look_at_row.kp T.b_look_at_row Dfl.nil (da_cons (dx_name 0 (hv := Or.inl rfl)) (da_cons (dx_name 1 (hv := Or.inl rfl)) da_nil))))
      (dss_one (ds_ret (de_call (n := 2) (dd := []) (ok_beside_by T) (hr.mono (by decide)) hgd T.m_beside_by T.F_beside_by.kp T.b_beside_by Dfl.nil (da_cons (DE.froze (de_compV rfl nd (di_val (dx_name 0 (hv := Or.inl rfl))) (blkOk_by (own := [("web", 2)]) (N := N_rows_beside) (sc := defScope s_rows_beside) (by decide +kernel)) (fun _ _ _ _ _ => (dgc_name 2 nd (hx := Or.inl rfl) (hf := Or.inr rfl))) (fun _ _ _ _ _ => dts_nil) (fun _ _ _ _ _ => (de_call (n := 1) (dd := []) (ok_beside_all T) (hr.mono (by decide)) hgd T.m_beside_all T.F_beside_all.kp T.b_beside_all Dfl.nil (da_cons (dx_name 2 (hv := Or.inl rfl)) da_nil))))) (da_cons (dx_name 1 (hv := Or.inl rfl)) da_nil)))))))
theorem ok_rows_beside (T : Txt K mg) : FnG P w K mg base 6 T.a_rows_beside T.fd_rows_beside P_rows_beside (spF mg 2 WT.G_rows_beside) := raw_rows_beside T
theorem raw__law_own (T : Txt K mg) : FnG P w K mg base 1 T.a__law_own T.fd__law_own P__law_own (spF mg 2 (runF 6 WT.den_law_own)) := by
  have nd := sc__law_own.nd
  refine okF (k := 0) T.F__law_own sc__law_own fun cdv A outer s H E hr hgd => ?_
  have hu := hu100 hr
  have hu1 := hu1 hr
  exact (dss_cons (ds_set 2 (DX.o dx_int) nd (hx := Or.inl rfl) (hf := Or.inr rfl))
      (dss_cons (ds_for rfl (di_zip T.z_zip (da_cons (dx_name 1 (hv := Or.inl rfl)) (da_cons (dx_name 0 (hv := Or.inl rfl)) da_nil))) (dg_tup rfl (dgs_cons (dg_name 3 nd (hx := Or.inr rfl) (hf := Or.inl rfl)) (dgs_cons (dg_name 4 nd (hx := Or.inl rfl) (hf := Or.inr rfl)) dgs_nil)))
      (dss_one (ds_set 2 (DX.o (dx_bin od_add (dx_name 2 (hv := Or.inl rfl)) (dx_callB cd_lenX T.z_len (by decide +kernel) (da_cons (DE.froze (de_compV rfl nd (di_val (dx_ixX hu1 (dx_name 4 (hv := Or.inl rfl)) dx_int)) (blkOk_by (own := [("tie", 5)]) (N := N__law_own) (sc := defScope s__law_own) (by decide +kernel)) (fun _ _ _ _ _ => (dgc_name 5 nd (hx := Or.inl rfl) (hf := Or.inr rfl))) (fun _ _ _ _ _ => (dts_one (dt_cmp (od_inX hu) (dx_name 3 (hv := Or.inr (Or.inl rfl))) (dx_name 5 (hv := Or.inl rfl))))) (fun _ _ _ _ _ => (DX.o (dx_name 5 (hv := Or.inl rfl)))))) da_nil)))) nd (hx := Or.inl rfl) (hf := Or.inr rfl))))
      (dss_one (ds_ret (de_mv 2 (hv := Or.inl rfl))))))
theorem ok__law_own (T : Txt K mg) : FnG P w K mg base 1 T.a__law_own T.fd__law_own P__law_own (spF mg 2 WT.G_law_own) := raw__law_own T
theorem raw__law_web_of (T : Txt K mg) : FnG P w K mg base 1 T.a__law_web_of T.fd__law_web_of P__law_web_of (spF mg 2 (runF 3 WT.den_law_web_of)) := by
  have nd := sc__law_web_of.nd
  refine okF (k := 0) T.F__law_web_of sc__law_web_of fun cdv A outer s H E hr hgd => ?_
  have hu := hu100 hr
  have hu1 := hu1 hr
  exact (dss_one (ds_ret (de_compV rfl nd (di_range1 T.z_range (da_cons (dx_callB cd_lenX T.z_len (by decide +kernel) (da_cons (dx_name 0 (hv := Or.inr (Or.inl rfl))) da_nil)) da_nil)) (blkOk_by (own := [("k", 2)]) (N := N__law_web_of) (sc := defScope s__law_web_of) (by decide +kernel)) (fun _ _ _ _ _ => (dgc_name 2 nd (hx := Or.inl rfl) (hf := Or.inr rfl))) (fun _ _ _ _ _ => (dts_one (dt_cmp (od_ne hu) (dx_ixX hu1 (dx_name 0 (hv := Or.inr (Or.inl rfl))) (dx_name 2 (hv := Or.inl rfl))) (dx_ixX hu1 (dx_name 1 (hv := Or.inr (Or.inl rfl))) (dx_name 2 (hv := Or.inl rfl)))))) (fun _ _ _ _ _ => (DX.o (dx_name 2 (hv := Or.inl rfl)))))))
theorem ok__law_web_of (T : Txt K mg) : FnG P w K mg base 1 T.a__law_web_of T.fd__law_web_of P__law_web_of (spF mg 2 WT.G_law_web_of) := raw__law_web_of T
theorem raw__law_row_right (T : Txt K mg) : FnG P w K mg base 7 T.a__law_row_right T.fd__law_row_right P__law_row_right (spM mg 3 (runM 8 WT.den_law_row_right)) := by
  have nd := sc__law_row_right.nd
  refine okM (k := 6) T.F__law_row_right sc__law_row_right fun cdv A outer s H E hr hgd => ?_
  have hu := hu100 hr
  have hu1 := hu1 hr
  exact (dss_cons (ds_set 3 (DX.o (DE.froze (de_call (n := 2) (dd := []) (ok_rows_beside T) (hr.mono (by decide)) hgd T.m_rows_beside T.F_rows_beside.kp T.b_rows_beside Dfl.nil (da_cons (dx_name 1 (hv := Or.inl rfl)) (da_cons (dx_name 2 (hv := Or.inl rfl)) da_nil))))) nd (hx := Or.inl rfl) (hf := Or.inr rfl))
      (dss_cons (ds_if (dt_w (dw_or (dt_cmp (od_ne hu) (dx_callB cd_lenX T.z_len (by decide +kernel) (da_cons (dx_name 3 (hv := Or.inl rfl)) da_nil)) (DE.froze (de_call (n := 2) (dd := []) (ok__law_own T) (hr.mono (by decide)) hgd T.m__law_own T.F__law_own.kp T.b__law_own Dfl.nil (da_cons (dx_name 1 (hv := Or.inl rfl)) (da_cons (dx_name 2 (hv := Or.inl rfl)) da_nil))))) (dw_or1 (dt_val (DE.froze (de_call (n := 3) (dd := []) (ok_rows_tied T) (hr.mono (by decide)) hgd T.m_rows_tied T.F_rows_tied.kp T.b_rows_tied Dfl.nil (da_cons (dx_name 1 (hv := Or.inl rfl)) (da_cons (dx_name 2 (hv := Or.inl rfl)) (da_cons (dx_name 2 (hv := Or.inl rfl)) da_nil))))))))) (dss_one (ds_ret (DX.o dx_none)))
      dss_nil)
      (dss_cons (ds_set 4 (DX.o (DE.froze (de_call (n := 2) (dd := []) (ok_number_of T) (hr.mono (by decide)) hgd T.m_number_of T.F_number_of.kp T.b_number_of Dfl.nil (da_cons (dx_name 1 (hv := Or.inl rfl)) (da_cons (dx_name 2 (hv := Or.inl rfl)) da_nil))))) nd (hx := Or.inl rfl) (hf := Or.inr rfl))
      (dss_cons (ds_if (dt_cmp (od_ne hu) (DE.froze (de_call (n := 2) (dd := []) (ok_row_of T) (hr.mono (by decide)) hgd T.m_row_of T.F_row_of.kp T.b_row_of Dfl.nil (da_cons (dx_name 1 (hv := Or.inl rfl)) (da_cons (dx_name 4 (hv := Or.inl rfl)) da_nil)))) (dx_name 2 (hv := Or.inl rfl))) (dss_one (ds_ret (DX.o dx_none)))
      dss_nil)
      (dss_cons (ds_for rfl (di_range1 T.z_range (da_cons (dx_bin od_mul dx_int (dx_callTy cd_int T.z_int (by decide +kernel) (da_cons (dx_cmp (od_ne hu) (dx_name 3 (hv := Or.inl rfl)) (dx_lst da_nil)) da_nil))) da_nil)) (dg_name 5 nd (hx := Or.inl rfl) (hf := Or.inr rfl))
      (dss_cons (ds_set 6 (DX.o (dx_ixX hu1 (dx_name 3 (hv := Or.inl rfl)) (DE.froze (de_callM 0 (hv := Or.inl rfl) (n := 2) (ok__law_take T) (hr.mono (by decide)) hgd T.m__law_take T.F__law_take.kp T.b__law_take (da_cons (dx_callB cd_lenX T.z_len (by decide +kernel) (da_cons (dx_name 3 (hv := Or.inl rfl)) da_nil)) da_nil))))) nd (hx := Or.inl rfl) (hf := Or.inr rfl))
      (dss_cons (ds_if (dt_w (dw_or (dt_not (dt_val (DE.froze (de_call (n := 2) (dd := []) (ok_is_row T) (hr.mono (by decide)) hgd T.m_is_row T.F_is_row.kp T.b_is_row Dfl.nil (da_cons (dx_name 1 (hv := Or.inl rfl)) (da_cons (dx_name 6 (hv := Or.inl rfl)) da_nil)))))) (dw_or (dt_cmp (od_ne hu) (dx_callB cd_lenX T.z_len (by decide +kernel) (da_cons (DE.froze (de_call (n := 2) (dd := []) (ok__law_web_of T) (hr.mono (by decide)) hgd T.m__law_web_of T.F__law_web_of.kp T.b__law_web_of Dfl.nil (da_cons (dx_name 2 (hv := Or.inl rfl)) (da_cons (dx_name 6 (hv := Or.inl rfl)) da_nil)))) da_nil)) dx_int) (dw_or1 (dt_cmp (od_eq hu) (DE.froze (de_call (n := 2) (dd := []) (ok_number_of T) (hr.mono (by decide)) hgd T.m_number_of T.F_number_of.kp T.b_number_of Dfl.nil (da_cons (dx_name 1 (hv := Or.inl rfl)) (da_cons (dx_name 6 (hv := Or.inl rfl)) da_nil)))) (dx_name 4 (hv := Or.inl rfl))))))) (dss_one (ds_ret (DX.o dx_none)))
      dss_nil)
      (dss_cons (ds_if (dt_w (dw_or (dt_not (dt_val (DE.froze (de_call (n := 3) (dd := []) (ok_rows_tied T) (hr.mono (by decide)) hgd T.m_rows_tied T.F_rows_tied.kp T.b_rows_tied Dfl.nil (da_cons (dx_name 1 (hv := Or.inl rfl)) (da_cons (dx_name 2 (hv := Or.inl rfl)) (da_cons (dx_name 6 (hv := Or.inl rfl)) da_nil))))))) (dw_or1 (dt_not (dt_val (DE.froze (de_call (n := 3) (dd := []) (ok_rows_tied T) (hr.mono (by decide)) hgd T.m_rows_tied T.F_rows_tied.kp T.b_rows_tied Dfl.nil (da_cons (dx_name 1 (hv := Or.inl rfl)) (da_cons (dx_name 6 (hv := Or.inl rfl)) (da_cons (dx_name 2 (hv := Or.inl rfl)) da_nil)))))))))) (dss_one (ds_ret (DX.o dx_none)))
      dss_nil)
      (dss_one (ds_if (dt_cmp (od_notInX hu) (dx_name 2 (hv := Or.inl rfl)) (DE.froze (de_call (n := 2) (dd := []) (ok_rows_beside T) (hr.mono (by decide)) hgd T.m_rows_beside T.F_rows_beside.kp T.b_rows_beside Dfl.nil (da_cons (dx_name 1 (hv := Or.inl rfl)) (da_cons (dx_name 6 (hv := Or.inl rfl)) da_nil))))) (dss_one (ds_ret (DX.o dx_none)))
      dss_nil))))))
      (dss_cons (ds_for rfl (di_zip T.z_zip (da_cons (dx_name 3 (hv := Or.inl rfl)) (da_cons (DE.froze (de_slice (dx_name 3 (hv := Or.inl rfl)) (dop_some dx_int) dop_none)) da_nil))) (dg_tup rfl (dgs_cons (dg_name 6 nd (hx := Or.inl rfl) (hf := Or.inr rfl)) (dgs_cons (dg_name 7 nd (hx := Or.inl rfl) (hf := Or.inr rfl)) dgs_nil)))
      (dss_one (ds_if (dt_not (dt_cmp (od_lt hu) (dx_name 6 (hv := Or.inl rfl)) (dx_name 7 (hv := Or.inl rfl)))) (dss_one (ds_ret (DX.o dx_none)))
      dss_nil)))
      (dss_one (ds_ret (de_mv 3 (hv := Or.inl rfl))))))))))
theorem ok__law_row_right (T : Txt K mg) : FnG P w K mg base 7 T.a__law_row_right T.fd__law_row_right P__law_row_right (spM mg 3 WT.G_law_row_right) := raw__law_row_right T
theorem raw__law_square (T : Txt K mg) : FnG P w K mg base 7 T.a__law_square T.fd__law_square P__law_square (spF mg 4 (runF 7 WT.den_law_square)) := by
  have nd := sc__law_square.nd
  refine okF (k := 6) T.F__law_square sc__law_square fun cdv A outer s H E hr hgd => ?_
  have hu := hu100 hr
  have hu1 := hu1 hr
  exact (dss_cons (ds_set 4 (DX.o (DE.froze (de_call (n := 2) (dd := []) (ok__law_web_of T) (hr.mono (by decide)) hgd T.m__law_web_of T.F__law_web_of.kp T.b__law_web_of Dfl.nil (da_cons (dx_name 1 (hv := Or.inl rfl)) (da_cons (dx_name 2 (hv := Or.inl rfl)) da_nil))))) nd (hx := Or.inl rfl) (hf := Or.inr rfl))
      (dss_cons (ds_set 5 (DX.o (DE.froze (de_call (n := 2) (dd := []) (ok__law_web_of T) (hr.mono (by decide)) hgd T.m__law_web_of T.F__law_web_of.kp T.b__law_web_of Dfl.nil (da_cons (dx_name 2 (hv := Or.inl rfl)) (da_cons (dx_name 3 (hv := Or.inl rfl)) da_nil))))) nd (hx := Or.inl rfl) (hf := Or.inr rfl))
      (dss_cons (ds_if (dt_cmp (od_eq hu) (dx_name 4 (hv := Or.inl rfl)) (dx_name 5 (hv := Or.inl rfl))) (dss_one (ds_ret (DX.o dx_bool)))
      dss_nil)
      (dss_cons (ds_set 6 (de_callTy co_list T.z_list (by decide +kernel) (da_cons (dx_name 1 (hv := Or.inl rfl)) da_nil)) nd (hx := Or.inl rfl) (hf := Or.inr rfl))
      (dss_cons (ds_setIx 6 hu1 (DX.o (dx_ixX hu1 (dx_name 3 (hv := Or.inl rfl)) (dx_ixX hu1 (dx_name 5 (hv := Or.inl rfl)) dx_int))) (dx_ixX hu1 (dx_name 5 (hv := Or.inl rfl)) dx_int) (hv := Or.inl rfl))
      (dss_one (ds_ret (DX.o (dx_pure (dx_and (DE.froze (de_call (n := 3) (dd := []) (ok_rows_tied T) (hr.mono (by decide)) hgd T.m_rows_tied T.F_rows_tied.kp T.b_rows_tied Dfl.nil (da_cons (dx_name 0 (hv := Or.inl rfl)) (da_cons (dx_name 1 (hv := Or.inl rfl)) (da_cons (dx_name 6 (hv := Or.inl rfl)) da_nil))))) (dx_and (DE.froze (de_call (n := 3) (dd := []) (ok_rows_tied T) (hr.mono (by decide)) hgd T.m_rows_tied T.F_rows_tied.kp T.b_rows_tied Dfl.nil (da_cons (dx_name 0 (hv := Or.inl rfl)) (da_cons (dx_name 6 (hv := Or.inl rfl)) (da_cons (dx_name 3 (hv := Or.inl rfl)) da_nil))))) (dx_one (dx_not (DE.froze (de_call (n := 3) (dd := []) (ok_rows_tied T) (hr.mono (by decide)) hgd T.m_rows_tied T.F_rows_tied.kp T.b_rows_tied Dfl.nil (da_cons (dx_name 0 (hv := Or.inl rfl)) (da_cons (dx_name 1 (hv := Or.inl rfl)) (da_cons (dx_name 3 (hv := Or.inl rfl)) da_nil))))))))))))))))))
theorem ok__law_square (T : Txt K mg) : FnG P w K mg base 7 T.a__law_square T.fd__law_square P__law_square (spF mg 4 WT.G_law_square) := raw__law_square T
theorem raw_law (T : Txt K mg) : FnG P w K mg base 8 T.a_law T.fd_law P_law (spF mg 1 (runF 10 WT.den_law_k15)) := by
  have nd := sc_law.nd
  refine okF (k := 7) T.F_law sc_law fun cdv A outer s H E hr hgd => ?_
  have hu := hu100 hr
  have hu1 := hu1 hr
  exact (dss_cons (ds_set 1 (de_call (n := 2) (dd := []) (ok__law_pool T) (hr.mono (by decide)) hgd T.m__law_pool T.F__law_pool.kp T.b__law_pool Dfl.nil (da_cons (dx_name 0 (hv := Or.inl rfl)) (da_cons dx_int da_nil))) nd (hx := Or.inr rfl) (hf := Or.inl rfl))
      (dss_cons (ds_setLcW 2 rfl nd (di_range1 T.z_range (da_cons (dx_bin od_add dx_int (DE.froze (de_callM 1 (hv := Or.inr (Or.inl rfl)) (n := 2) (ok__law_take T) (hr.mono (by decide)) hgd T.m__law_take T.F__law_take.kp T.b__law_take (da_cons dx_int da_nil)))) da_nil)) (blkOk_by (own := [("turn", 8)]) (N := N_law) (sc := defScope s_law) (by decide +kernel)) (fun _ _ _ _ _ => (dgc_name 8 nd (hx := Or.inl rfl) (hf := Or.inr rfl))) (fun _ _ _ _ _ => dts_nil) (fun _ _ _ _ _ => (de_callM 1 (hv := Or.inr (Or.inl rfl)) (n := 3) (ok__law_loose T) (hr.mono (by decide)) hgd T.m__law_loose T.F__law_loose.kp T.b__law_loose (da_cons (dx_ixX hu1 (dx_lst (da_cons dx_int (da_cons dx_int (da_cons dx_int (da_cons dx_int da_nil))))) (DE.froze (de_callM 1 (hv := Or.inr (Or.inl rfl)) (n := 2) (ok__law_take T) (hr.mono (by decide)) hgd T.m__law_take T.F__law_take.kp T.b__law_take (da_cons dx_int da_nil)))) (da_cons dx_int da_nil)))) (hsw := sw_true rfl rfl rfl (by decide +kernel)))
      (dss_cons (ds_setLcW 3 rfl nd (di_val (dx_name 2 (hv := Or.inl rfl))) (blkOk_by (own := [("web", 9)]) (N := N_law) (sc := defScope s_law) (by decide +kernel)) (fun _ _ _ _ _ => (dgc_name 9 nd (hx := Or.inl rfl) (hf := Or.inr rfl))) (fun _ _ _ _ _ => dts_nil) (fun _ _ _ _ _ => (de_callM 1 (hv := Or.inr (Or.inl rfl)) (n := 2) (ok__law_take T) (hr.mono (by decide)) hgd T.m__law_take T.F__law_take.kp T.b__law_take (da_cons (dx_ixX hu1 (dx_name 9 (hv := Or.inl rfl)) dx_int) da_nil))) (hsw := sw_true rfl rfl rfl (by decide +kernel)))
      (dss_cons (ds_set 4 (DX.o dx_none) nd (hx := Or.inl rfl) (hf := Or.inr rfl))
      (dss_cons (ds_for rfl (di_range2 T.z_range (da_cons dx_int (da_cons (dx_callB (cd_max rfl hu) T.z_max (by decide +kernel) (da_cons dx_int (da_cons (dx_callB (cd_min rfl hu) T.z_min (by decide +kernel) (da_cons (dx_callB cd_lenX T.z_len (by decide +kernel) (da_cons (dx_name 0 (hv := Or.inl rfl)) da_nil)) (da_cons dx_int da_nil))) da_nil))) da_nil))) (dg_name 5 nd (hx := Or.inl rfl) (hf := Or.inr rfl))
      (dss_cons (ds_set 1 (de_call (n := 2) (dd := []) (ok__law_pool T) (hr.mono (by decide)) hgd T.m__law_pool T.F__law_pool.kp T.b__law_pool Dfl.nil (da_cons (dx_name 0 (hv := Or.inl rfl)) (da_cons (dx_name 5 (hv := Or.inl rfl)) da_nil))) nd (hx := Or.inr rfl) (hf := Or.inl rfl))
      (dss_cons (ds_set 6 (DX.o (DE.froze (de_callM 1 (hv := Or.inr (Or.inl rfl)) (n := 3) (ok__law_row_right T) (hr.mono (by decide)) hgd T.m__law_row_right T.F__law_row_right.kp T.b__law_row_right (da_cons (dx_name 2 (hv := Or.inl rfl)) (da_cons (dx_name 3 (hv := Or.inl rfl)) da_nil))))) nd (hx := Or.inl rfl) (hf := Or.inr rfl))
      (dss_cons (ds_if (dt_cmp od_is (dx_name 6 (hv := Or.inl rfl)) dx_none) (dss_one (ds_ret (DX.o dx_bool)))
      dss_nil)
      (dss_one (ds_if (dt_w (dw_or (dt_cmp (od_eq hu) (dx_name 6 (hv := Or.inl rfl)) (dx_lst da_nil)) (dw_or1 (dt_cmp (od_eq hu) (DE.froze (de_callM 1 (hv := Or.inr (Or.inl rfl)) (n := 2) (ok__law_take T) (hr.mono (by decide)) hgd T.m__law_take T.F__law_take.kp T.b__law_take (da_cons dx_int da_nil))) dx_int)))) (dss_cons (ds_set 4 (DX.o dx_none) nd (hx := Or.inl rfl) (hf := Or.inr rfl))
      (dss_one (ds_setLcW 3 rfl nd (di_val (dx_name 2 (hv := Or.inl rfl))) (blkOk_by (own := [("web", 9)]) (N := N_law) (sc := defScope s_law) (by decide +kernel)) (fun _ _ _ _ _ => (dgc_name 9 nd (hx := Or.inl rfl) (hf := Or.inr rfl))) (fun _ _ _ _ _ => dts_nil) (fun _ _ _ _ _ => (de_callM 1 (hv := Or.inr (Or.inl rfl)) (n := 2) (ok__law_take T) (hr.mono (by decide)) hgd T.m__law_take T.F__law_take.kp T.b__law_take (da_cons (dx_ixX hu1 (dx_name 9 (hv := Or.inl rfl)) dx_int) da_nil))) (hsw := sw_true rfl rfl rfl (by decide +kernel)))))
      (dss_cons (ds_set 7 (DX.o (dx_ixX hu1 (dx_name 6 (hv := Or.inl rfl)) (DE.froze (de_callM 1 (hv := Or.inr (Or.inl rfl)) (n := 2) (ok__law_take T) (hr.mono (by decide)) hgd T.m__law_take T.F__law_take.kp T.b__law_take (da_cons (dx_callB cd_lenX T.z_len (by decide +kernel) (da_cons (dx_name 6 (hv := Or.inl rfl)) da_nil)) da_nil))))) nd (hx := Or.inl rfl) (hf := Or.inr rfl))
      (dss_cons (ds_if (dt_w (dw_and (dt_cmp od_isNot (dx_name 4 (hv := Or.inl rfl)) dx_none) (dw_and1 (dt_not (dt_val (DE.froze (de_call (n := 4) (dd := []) (ok__law_square T) (hr.mono (by decide)) hgd T.m__law_square T.F__law_square.kp T.b__law_square Dfl.nil (da_cons (dx_name 2 (hv := Or.inl rfl)) (da_cons (dx_name 4 (hv := Or.inl rfl)) (da_cons (dx_name 3 (hv := Or.inl rfl)) (da_cons (dx_name 7 (hv := Or.inl rfl)) da_nil))))))))))) (dss_one (ds_ret (DX.o dx_bool)))
      dss_nil)
      (dss_cons (ds_set 4 (DX.o (dx_name 3 (hv := Or.inl rfl))) nd (hx := Or.inl rfl) (hf := Or.inr rfl))
      (dss_one (ds_set 3 (DX.o (dx_name 7 (hv := Or.inl rfl))) nd (hx := Or.inl rfl) (hf := Or.inr rfl))))))))))))
      (dss_one (ds_ret (DX.o dx_bool))))))))
theorem ok_law (T : Txt K mg) : FnG P w K mg base 8 T.a_law T.fd_law P_law (spF mg 1 WT.G_law_k15) := raw_law T
end
end Xk15
namespace Xk15
open PySem PySem.Spec PyProof.Rows L2 DS
section
variable {w : World} {K : PySem.W.Frag} {h : Heap} {mg : Str → Option Value}
noncomputable def mkTxt (X : K.In h) (G : h.Ns mainGlobals mg)
    {f0 : Addr} {od0 an0 : Option Addr} {sl0 : Array (Option Value)} {oc0 kV0 dc0 pm0 cd0 ct0 : Value}
    {f1 : Addr} {od1 an1 : Option Addr} {sl1 : Array (Option Value)} {oc1 kV1 dc1 pm1 cd1 ct1 : Value}
    {f2 : Addr} {od2 an2 : Option Addr} {sl2 : Array (Option Value)} {oc2 kV2 dc2 pm2 cd2 ct2 : Value}
    {f3 : Addr} {od3 an3 : Option Addr} {sl3 : Array (Option Value)} {oc3 kV3 dc3 pm3 cd3 ct3 : Value}
    {f4 : Addr} {od4 an4 : Option Addr} {sl4 : Array (Option Value)} {oc4 kV4 dc4 pm4 cd4 ct4 : Value}
    {f5 : Addr} {od5 an5 : Option Addr} {sl5 : Array (Option Value)} {oc5 kV5 dc5 pm5 cd5 ct5 : Value}
    {f6 : Addr} {od6 an6 : Option Addr} {sl6 : Array (Option Value)} {oc6 kV6 dc6 pm6 cd6 ct6 : Value}
    {f7 : Addr} {od7 an7 : Option Addr} {sl7 : Array (Option Value)} {oc7 kV7 dc7 pm7 cd7 ct7 : Value}
    {f8 : Addr} {od8 an8 : Option Addr} {sl8 : Array (Option Value)} {oc8 kV8 dc8 pm8 cd8 ct8 : Value}
    {f9 : Addr} {od9 an9 : Option Addr} {sl9 : Array (Option Value)} {oc9 kV9 dc9 pm9 cd9 ct9 : Value}
    {f10 : Addr} {od10 an10 : Option Addr} {sl10 : Array (Option Value)} {oc10 kV10 dc10 pm10 cd10 ct10 : Value}
    {f11 : Addr} {od11 an11 : Option Addr} {sl11 : Array (Option Value)} {oc11 kV11 dc11 pm11 cd11 ct11 : Value}
    {f12 : Addr} {od12 an12 : Option Addr} {sl12 : Array (Option Value)} {oc12 kV12 dc12 pm12 cd12 ct12 : Value}
    {f13 : Addr} {od13 an13 : Option Addr} {sl13 : Array (Option Value)} {oc13 kV13 dc13 pm13 cd13 ct13 : Value}
    {f14 : Addr} {od14 an14 : Option Addr} {sl14 : Array (Option Value)} {oc14 kV14 dc14 pm14 cd14 ct14 : Value}
    {f15 : Addr} {od15 an15 : Option Addr} {sl15 : Array (Option Value)} {oc15 kV15 dc15 pm15 cd15 ct15 : Value}
    {f16 : Addr} {od16 an16 : Option Addr} {sl16 : Array (Option Value)} {oc16 kV16 dc16 pm16 cd16 ct16 : Value}
    {f17 : Addr} {od17 an17 : Option Addr} {sl17 : Array (Option Value)} {oc17 kV17 dc17 pm17 cd17 ct17 : Value}
    {f18 : Addr} {od18 an18 : Option Addr} {sl18 : Array (Option Value)} {oc18 kV18 dc18 pm18 cd18 ct18 : Value}
    {f19 : Addr} {od19 an19 : Option Addr} {sl19 : Array (Option Value)} {oc19 kV19 dc19 pm19 cd19 ct19 : Value}
    {f20 : Addr} {od20 an20 : Option Addr} {sl20 : Array (Option Value)} {oc20 kV20 dc20 pm20 cd20 ct20 : Value}
    {f21 : Addr} {od21 an21 : Option Addr} {sl21 : Array (Option Value)} {oc21 kV21 dc21 pm21 cd21 ct21 : Value}
    {f22 : Addr} {od22 an22 : Option Addr} {sl22 : Array (Option Value)} {oc22 kV22 dc22 pm22 cd22 ct22 : Value}
    {f23 : Addr} {od23 an23 : Option Addr} {sl23 : Array (Option Value)} {oc23 kV23 dc23 pm23 cd23 ct23 : Value}
    {f24 : Addr} {od24 an24 : Option Addr} {sl24 : Array (Option Value)} {oc24 kV24 dc24 pm24 cd24 ct24 : Value}
    {f25 : Addr} {od25 an25 : Option Addr} {sl25 : Array (Option Value)} {oc25 kV25 dc25 pm25 cd25 ct25 : Value}
    {f26 : Addr} {od26 an26 : Option Addr} {sl26 : Array (Option Value)} {oc26 kV26 dc26 pm26 cd26 ct26 : Value}
    {t0 : Tok}
    {t1 : Tok}
    {t2 : Tok}
    (a0 : PySem.W.nsIn K mainGlobals "_law_take" = some (some (.ref f0))) (l0 : K.lookup f0 = some ⟨oc0, od0, .func (PySem.W.fnOf "_law_take" "_law_take" (defArgs s__law_take) (defBody s__law_take) (defScope s__law_take) .none kV0 dc0 pm0 an0 cd0 ct0), sl0⟩) (c0 : PySem.W.codeIn K cd0 "_law_take" = true) (k0 : PySem.W.keepIn K (.ref f0) = true)
    (a1 : PySem.W.nsIn K mainGlobals "_law_web" = some (some (.ref f1))) (l1 : K.lookup f1 = some ⟨oc1, od1, .func (PySem.W.fnOf "_law_web" "_law_web" (defArgs s__law_web) (defBody s__law_web) (defScope s__law_web) .none kV1 dc1 pm1 an1 cd1 ct1), sl1⟩) (c1 : PySem.W.codeIn K cd1 "_law_web" = true) (k1 : PySem.W.keepIn K (.ref f1) = true)
    (a2 : PySem.W.nsIn K mainGlobals "is_whole" = some (some (.ref f2))) (l2 : K.lookup f2 = some ⟨oc2, od2, .func (PySem.W.fnOf "is_whole" "is_whole" (defArgs s_is_whole) (defBody s_is_whole) (defScope s_is_whole) .none kV2 dc2 pm2 an2 cd2 ct2), sl2⟩) (c2 : PySem.W.codeIn K cd2 "is_whole" = true) (k2 : PySem.W.keepIn K (.ref f2) = true)
    (a3 : PySem.W.nsIn K mainGlobals "is_within" = some (some (.ref f3))) (l3 : K.lookup f3 = some ⟨oc3, od3, .func (PySem.W.fnOf "is_within" "is_within" (defArgs s_is_within) (defBody s_is_within) (defScope s_is_within) .none kV3 dc3 pm3 an3 cd3 ct3), sl3⟩) (c3 : PySem.W.codeIn K cd3 "is_within" = true) (k3 : PySem.W.keepIn K (.ref f3) = true)
    (a4 : PySem.W.nsIn K mainGlobals "is_tie" = some (some (.ref f4))) (l4 : K.lookup f4 = some ⟨oc4, od4, .func (PySem.W.fnOf "is_tie" "is_tie" (defArgs s_is_tie) (defBody s_is_tie) (defScope s_is_tie) .none kV4 dc4 pm4 an4 cd4 ct4), sl4⟩) (c4 : PySem.W.codeIn K cd4 "is_tie" = true) (k4 : PySem.W.keepIn K (.ref f4) = true)
    (a5 : PySem.W.nsIn K mainGlobals "look_at_web" = some (some (.ref f5))) (l5 : K.lookup f5 = some ⟨oc5, od5, .func (PySem.W.fnOf "look_at_web" "look_at_web" (defArgs s_look_at_web) (defBody s_look_at_web) (defScope s_look_at_web) .none kV5 dc5 pm5 an5 cd5 ct5), sl5⟩) (c5 : PySem.W.codeIn K cd5 "look_at_web" = true) (k5 : PySem.W.keepIn K (.ref f5) = true)
    (a6 : PySem.W.nsIn K mainGlobals "look_at_webs" = some (some (.ref f6))) (l6 : K.lookup f6 = some ⟨oc6, od6, .func (PySem.W.fnOf "look_at_webs" "look_at_webs" (defArgs s_look_at_webs) (defBody s_look_at_webs) (defScope s_look_at_webs) .none kV6 dc6 pm6 an6 cd6 ct6), sl6⟩) (c6 : PySem.W.codeIn K cd6 "look_at_webs" = true) (k6 : PySem.W.keepIn K (.ref f6) = true)
    (a7 : PySem.W.nsIn K mainGlobals "is_row_in" = some (some (.ref f7))) (l7 : K.lookup f7 = some ⟨oc7, od7, .func (PySem.W.fnOf "is_row_in" "is_row_in" (defArgs s_is_row_in) (defBody s_is_row_in) (defScope s_is_row_in) .none kV7 dc7 pm7 an7 cd7 ct7), sl7⟩) (c7 : PySem.W.codeIn K cd7 "is_row_in" = true) (k7 : PySem.W.keepIn K (.ref f7) = true)
    (a8 : PySem.W.nsIn K mainGlobals "look_at_row" = some (some (.ref f8))) (l8 : K.lookup f8 = some ⟨oc8, od8, .func (PySem.W.fnOf "look_at_row" "look_at_row" (defArgs s_look_at_row) (defBody s_look_at_row) (defScope s_look_at_row) .none kV8 dc8 pm8 an8 cd8 ct8), sl8⟩) (c8 : PySem.W.codeIn K cd8 "look_at_row" = true) (k8 : PySem.W.keepIn K (.ref f8) = true)
    (a9 : PySem.W.nsIn K mainGlobals "number_in" = some (some (.ref f9))) (l9 : K.lookup f9 = some ⟨oc9, od9, .func (PySem.W.fnOf "number_in" "number_in" (defArgs s_number_in) (defBody s_number_in) (defScope s_number_in) .none kV9 dc9 pm9 an9 cd9 ct9), sl9⟩) (c9 : PySem.W.codeIn K cd9 "number_in" = true) (k9 : PySem.W.keepIn K (.ref f9) = true)
    (a10 : PySem.W.nsIn K mainGlobals "row_in" = some (some (.ref f10))) (l10 : K.lookup f10 = some ⟨oc10, od10, .func (PySem.W.fnOf "row_in" "row_in" (defArgs s_row_in) (defBody s_row_in) (defScope s_row_in) .none kV10 dc10 pm10 an10 cd10 ct10), sl10⟩) (c10 : PySem.W.codeIn K cd10 "row_in" = true) (k10 : PySem.W.keepIn K (.ref f10) = true)
    (a11 : PySem.W.nsIn K mainGlobals "places_in" = some (some (.ref f11))) (l11 : K.lookup f11 = some ⟨oc11, od11, .func (PySem.W.fnOf "places_in" "places_in" (defArgs s_places_in) (defBody s_places_in) (defScope s_places_in) .none kV11 dc11 pm11 an11 cd11 ct11), sl11⟩) (c11 : PySem.W.codeIn K cd11 "places_in" = true) (k11 : PySem.W.keepIn K (.ref f11) = true)
    (a12 : PySem.W.nsIn K mainGlobals "tied_in" = some (some (.ref f12))) (l12 : K.lookup f12 = some ⟨oc12, od12, .func (PySem.W.fnOf "tied_in" "tied_in" (defArgs s_tied_in) (defBody s_tied_in) (defScope s_tied_in) .none kV12 dc12 pm12 an12 cd12 ct12), sl12⟩) (c12 : PySem.W.codeIn K cd12 "tied_in" = true) (k12 : PySem.W.keepIn K (.ref f12) = true)
    (a13 : PySem.W.nsIn K mainGlobals "beside_by" = some (some (.ref f13))) (l13 : K.lookup f13 = some ⟨oc13, od13, .func (PySem.W.fnOf "beside_by" "beside_by" (defArgs s_beside_by) (defBody s_beside_by) (defScope s_beside_by) .none kV13 dc13 pm13 an13 cd13 ct13), sl13⟩) (c13 : PySem.W.codeIn K cd13 "beside_by" = true) (k13 : PySem.W.keepIn K (.ref f13) = true)
    (a14 : PySem.W.nsIn K mainGlobals "beside_all" = some (some (.ref f14))) (l14 : K.lookup f14 = some ⟨oc14, od14, .func (PySem.W.fnOf "beside_all" "beside_all" (defArgs s_beside_all) (defBody s_beside_all) (defScope s_beside_all) .none kV14 dc14 pm14 an14 cd14 ct14), sl14⟩) (c14 : PySem.W.codeIn K cd14 "beside_all" = true) (k14 : PySem.W.keepIn K (.ref f14) = true)
    (a15 : PySem.W.nsIn K mainGlobals "rows_beside" = some (some (.ref f15))) (l15 : K.lookup f15 = some ⟨oc15, od15, .func (PySem.W.fnOf "rows_beside" "rows_beside" (defArgs s_rows_beside) (defBody s_rows_beside) (defScope s_rows_beside) .none kV15 dc15 pm15 an15 cd15 ct15), sl15⟩) (c15 : PySem.W.codeIn K cd15 "rows_beside" = true) (k15 : PySem.W.keepIn K (.ref f15) = true)
    (a16 : PySem.W.nsIn K mainGlobals "number_of" = some (some (.ref f16))) (l16 : K.lookup f16 = some ⟨oc16, od16, .func (PySem.W.fnOf "number_of" "number_of" (defArgs s_number_of) (defBody s_number_of) (defScope s_number_of) .none kV16 dc16 pm16 an16 cd16 ct16), sl16⟩) (c16 : PySem.W.codeIn K cd16 "number_of" = true) (k16 : PySem.W.keepIn K (.ref f16) = true)
    (a17 : PySem.W.nsIn K mainGlobals "rows_tied" = some (some (.ref f17))) (l17 : K.lookup f17 = some ⟨oc17, od17, .func (PySem.W.fnOf "rows_tied" "rows_tied" (defArgs s_rows_tied) (defBody s_rows_tied) (defScope s_rows_tied) .none kV17 dc17 pm17 an17 cd17 ct17), sl17⟩) (c17 : PySem.W.codeIn K cd17 "rows_tied" = true) (k17 : PySem.W.keepIn K (.ref f17) = true)
    (a18 : PySem.W.nsIn K mainGlobals "row_of" = some (some (.ref f18))) (l18 : K.lookup f18 = some ⟨oc18, od18, .func (PySem.W.fnOf "row_of" "row_of" (defArgs s_row_of) (defBody s_row_of) (defScope s_row_of) .none kV18 dc18 pm18 an18 cd18 ct18), sl18⟩) (c18 : PySem.W.codeIn K cd18 "row_of" = true) (k18 : PySem.W.keepIn K (.ref f18) = true)
    (a19 : PySem.W.nsIn K mainGlobals "_law_own" = some (some (.ref f19))) (l19 : K.lookup f19 = some ⟨oc19, od19, .func (PySem.W.fnOf "_law_own" "_law_own" (defArgs s__law_own) (defBody s__law_own) (defScope s__law_own) .none kV19 dc19 pm19 an19 cd19 ct19), sl19⟩) (c19 : PySem.W.codeIn K cd19 "_law_own" = true) (k19 : PySem.W.keepIn K (.ref f19) = true)
    (a20 : PySem.W.nsIn K mainGlobals "is_row" = some (some (.ref f20))) (l20 : K.lookup f20 = some ⟨oc20, od20, .func (PySem.W.fnOf "is_row" "is_row" (defArgs s_is_row) (defBody s_is_row) (defScope s_is_row) .none kV20 dc20 pm20 an20 cd20 ct20), sl20⟩) (c20 : PySem.W.codeIn K cd20 "is_row" = true) (k20 : PySem.W.keepIn K (.ref f20) = true)
    (a21 : PySem.W.nsIn K mainGlobals "_law_web_of" = some (some (.ref f21))) (l21 : K.lookup f21 = some ⟨oc21, od21, .func (PySem.W.fnOf "_law_web_of" "_law_web_of" (defArgs s__law_web_of) (defBody s__law_web_of) (defScope s__law_web_of) .none kV21 dc21 pm21 an21 cd21 ct21), sl21⟩) (c21 : PySem.W.codeIn K cd21 "_law_web_of" = true) (k21 : PySem.W.keepIn K (.ref f21) = true)
    (a22 : PySem.W.nsIn K mainGlobals "_law_pool" = some (some (.ref f22))) (l22 : K.lookup f22 = some ⟨oc22, od22, .func (PySem.W.fnOf "_law_pool" "_law_pool" (defArgs s__law_pool) (defBody s__law_pool) (defScope s__law_pool) .none kV22 dc22 pm22 an22 cd22 ct22), sl22⟩) (c22 : PySem.W.codeIn K cd22 "_law_pool" = true) (k22 : PySem.W.keepIn K (.ref f22) = true)
    (a23 : PySem.W.nsIn K mainGlobals "_law_loose" = some (some (.ref f23))) (l23 : K.lookup f23 = some ⟨oc23, od23, .func (PySem.W.fnOf "_law_loose" "_law_loose" (defArgs s__law_loose) (defBody s__law_loose) (defScope s__law_loose) .none kV23 dc23 pm23 an23 cd23 ct23), sl23⟩) (c23 : PySem.W.codeIn K cd23 "_law_loose" = true) (k23 : PySem.W.keepIn K (.ref f23) = true)
    (a24 : PySem.W.nsIn K mainGlobals "_law_row_right" = some (some (.ref f24))) (l24 : K.lookup f24 = some ⟨oc24, od24, .func (PySem.W.fnOf "_law_row_right" "_law_row_right" (defArgs s__law_row_right) (defBody s__law_row_right) (defScope s__law_row_right) .none kV24 dc24 pm24 an24 cd24 ct24), sl24⟩) (c24 : PySem.W.codeIn K cd24 "_law_row_right" = true) (k24 : PySem.W.keepIn K (.ref f24) = true)
    (a25 : PySem.W.nsIn K mainGlobals "_law_square" = some (some (.ref f25))) (l25 : K.lookup f25 = some ⟨oc25, od25, .func (PySem.W.fnOf "_law_square" "_law_square" (defArgs s__law_square) (defBody s__law_square) (defScope s__law_square) .none kV25 dc25 pm25 an25 cd25 ct25), sl25⟩) (c25 : PySem.W.codeIn K cd25 "_law_square" = true) (k25 : PySem.W.keepIn K (.ref f25) = true)
    (a26 : PySem.W.nsIn K mainGlobals "law" = some (some (.ref f26))) (l26 : K.lookup f26 = some ⟨oc26, od26, .func (PySem.W.fnOf "law" "law" (defArgs s_law) (defBody s_law) (defScope s_law) .none kV26 dc26 pm26 an26 cd26 ct26), sl26⟩) (c26 : PySem.W.codeIn K cd26 "law" = true) (k26 : PySem.W.keepIn K (.ref f26) = true)
    (v0 : PySem.W.nsIn K mainGlobals "MOST_PLACES" = some (some (.int 40 t0)))
    (v1 : PySem.W.nsIn K mainGlobals "MOST_TIES" = some (some (.int 120 t1)))
    (v2 : PySem.W.nsIn K mainGlobals "MOST_WEBS" = some (some (.int 12 t2)))
    (z0 : PySem.W.nsIn K mainGlobals "len" = some none)
    (z1 : PySem.W.nsIn K mainGlobals "max" = some none)
    (z2 : PySem.W.nsIn K mainGlobals "list" = some none)
    (z3 : PySem.W.nsIn K mainGlobals "range" = some none)
    (z4 : PySem.W.nsIn K mainGlobals "sorted" = some none)
    (z5 : PySem.W.nsIn K mainGlobals "min" = some none)
    (z6 : PySem.W.nsIn K mainGlobals "isinstance" = some none)
    (z7 : PySem.W.nsIn K mainGlobals "int" = some none)
    (z8 : PySem.W.nsIn K mainGlobals "bool" = some none)
    (z9 : PySem.W.nsIn K mainGlobals "tuple" = some none)
    (z10 : PySem.W.nsIn K mainGlobals "enumerate" = some none)
    (z11 : PySem.W.nsIn K mainGlobals "all" = some none)
    (z12 : PySem.W.nsIn K mainGlobals "zip" = some none) : Txt K mg := {
    a__law_take := f0, fd__law_take := PySem.W.fnOf "_law_take" "_law_take" (defArgs s__law_take) (defBody s__law_take) (defScope s__law_take) .none kV0 dc0 pm0 an0 cd0 ct0, F__law_take := fun_mk (st := s__law_take) l0 c0 k0, b__law_take := (fun_mk (st := s__law_take) l0 c0 k0).binds (ps := P__law_take) (fun _ _ _ _ _ _ us hl => match us, hl with | [_, _], _ => rfl), m__law_take := PySem.W.mg_of X G a0,
    a__law_web := f1, fd__law_web := PySem.W.fnOf "_law_web" "_law_web" (defArgs s__law_web) (defBody s__law_web) (defScope s__law_web) .none kV1 dc1 pm1 an1 cd1 ct1, F__law_web := fun_mk (st := s__law_web) l1 c1 k1, b__law_web := (fun_mk (st := s__law_web) l1 c1 k1).binds (ps := P__law_web) (fun _ _ _ _ _ _ us hl => match us, hl with | [_, _, _], _ => rfl), m__law_web := PySem.W.mg_of X G a1,
    a_is_whole := f2, fd_is_whole := PySem.W.fnOf "is_whole" "is_whole" (defArgs s_is_whole) (defBody s_is_whole) (defScope s_is_whole) .none kV2 dc2 pm2 an2 cd2 ct2, F_is_whole := fun_mk (st := s_is_whole) l2 c2 k2, b_is_whole := (fun_mk (st := s_is_whole) l2 c2 k2).binds (ps := P_is_whole) (fun _ _ _ _ _ _ us hl => match us, hl with | [_], _ => rfl), m_is_whole := PySem.W.mg_of X G a2,
    a_is_within := f3, fd_is_within := PySem.W.fnOf "is_within" "is_within" (defArgs s_is_within) (defBody s_is_within) (defScope s_is_within) .none kV3 dc3 pm3 an3 cd3 ct3, F_is_within := fun_mk (st := s_is_within) l3 c3 k3, b_is_within := (fun_mk (st := s_is_within) l3 c3 k3).binds (ps := P_is_within) (fun _ _ _ _ _ _ us hl => match us, hl with | [_, _, _], _ => rfl), m_is_within := PySem.W.mg_of X G a3,
    a_is_tie := f4, fd_is_tie := PySem.W.fnOf "is_tie" "is_tie" (defArgs s_is_tie) (defBody s_is_tie) (defScope s_is_tie) .none kV4 dc4 pm4 an4 cd4 ct4, F_is_tie := fun_mk (st := s_is_tie) l4 c4 k4, b_is_tie := (fun_mk (st := s_is_tie) l4 c4 k4).binds (ps := P_is_tie) (fun _ _ _ _ _ _ us hl => match us, hl with | [_, _], _ => rfl), m_is_tie := PySem.W.mg_of X G a4,
    a_look_at_web := f5, fd_look_at_web := PySem.W.fnOf "look_at_web" "look_at_web" (defArgs s_look_at_web) (defBody s_look_at_web) (defScope s_look_at_web) .none kV5 dc5 pm5 an5 cd5 ct5, F_look_at_web := fun_mk (st := s_look_at_web) l5 c5 k5, b_look_at_web := (fun_mk (st := s_look_at_web) l5 c5 k5).binds (ps := P_look_at_web) (fun _ _ _ _ _ _ us hl => match us, hl with | [_], _ => rfl), m_look_at_web := PySem.W.mg_of X G a5,
    a_look_at_webs := f6, fd_look_at_webs := PySem.W.fnOf "look_at_webs" "look_at_webs" (defArgs s_look_at_webs) (defBody s_look_at_webs) (defScope s_look_at_webs) .none kV6 dc6 pm6 an6 cd6 ct6, F_look_at_webs := fun_mk (st := s_look_at_webs) l6 c6 k6, b_look_at_webs := (fun_mk (st := s_look_at_webs) l6 c6 k6).binds (ps := P_look_at_webs) (fun _ _ _ _ _ _ us hl => match us, hl with | [_], _ => rfl), m_look_at_webs := PySem.W.mg_of X G a6,
    a_is_row_in := f7, fd_is_row_in := PySem.W.fnOf "is_row_in" "is_row_in" (defArgs s_is_row_in) (defBody s_is_row_in) (defScope s_is_row_in) .none kV7 dc7 pm7 an7 cd7 ct7, F_is_row_in := fun_mk (st := s_is_row_in) l7 c7 k7, b_is_row_in := (fun_mk (st := s_is_row_in) l7 c7 k7).binds (ps := P_is_row_in) (fun _ _ _ _ _ _ us hl => match us, hl with | [_, _], _ => rfl), m_is_row_in := PySem.W.mg_of X G a7,
    a_look_at_row := f8, fd_look_at_row := PySem.W.fnOf "look_at_row" "look_at_row" (defArgs s_look_at_row) (defBody s_look_at_row) (defScope s_look_at_row) .none kV8 dc8 pm8 an8 cd8 ct8, F_look_at_row := fun_mk (st := s_look_at_row) l8 c8 k8, b_look_at_row := (fun_mk (st := s_look_at_row) l8 c8 k8).binds (ps := P_look_at_row) (fun _ _ _ _ _ _ us hl => match us, hl with | [_, _], _ => rfl), m_look_at_row := PySem.W.mg_of X G a8,
    a_number_in := f9, fd_number_in := PySem.W.fnOf "number_in" "number_in" (defArgs s_number_in) (defBody s_number_in) (defScope s_number_in) .none kV9 dc9 pm9 an9 cd9 ct9, F_number_in := fun_mk (st := s_number_in) l9 c9 k9, b_number_in := (fun_mk (st := s_number_in) l9 c9 k9).binds (ps := P_number_in) (fun _ _ _ _ _ _ us hl => match us, hl with | [_, _], _ => rfl), m_number_in := PySem.W.mg_of X G a9,
    a_row_in := f10, fd_row_in := PySem.W.fnOf "row_in" "row_in" (defArgs s_row_in) (defBody s_row_in) (defScope s_row_in) .none kV10 dc10 pm10 an10 cd10 ct10, F_row_in := fun_mk (st := s_row_in) l10 c10 k10, b_row_in := (fun_mk (st := s_row_in) l10 c10 k10).binds (ps := P_row_in) (fun _ _ _ _ _ _ us hl => match us, hl with | [_, _], _ => rfl), m_row_in := PySem.W.mg_of X G a10,
    a_places_in := f11, fd_places_in := PySem.W.fnOf "places_in" "places_in" (defArgs s_places_in) (defBody s_places_in) (defScope s_places_in) .none kV11 dc11 pm11 an11 cd11 ct11, F_places_in := fun_mk (st := s_places_in) l11 c11 k11, b_places_in := (fun_mk (st := s_places_in) l11 c11 k11).binds (ps := P_places_in) (fun _ _ _ _ _ _ us hl => match us, hl with | [_], _ => rfl), m_places_in := PySem.W.mg_of X G a11,
    a_tied_in := f12, fd_tied_in := PySem.W.fnOf "tied_in" "tied_in" (defArgs s_tied_in) (defBody s_tied_in) (defScope s_tied_in) .none kV12 dc12 pm12 an12 cd12 ct12, F_tied_in := fun_mk (st := s_tied_in) l12 c12 k12, b_tied_in := (fun_mk (st := s_tied_in) l12 c12 k12).binds (ps := P_tied_in) (fun _ _ _ _ _ _ us hl => match us, hl with | [_, _, _], _ => rfl), m_tied_in := PySem.W.mg_of X G a12,
    a_beside_by := f13, fd_beside_by := PySem.W.fnOf "beside_by" "beside_by" (defArgs s_beside_by) (defBody s_beside_by) (defScope s_beside_by) .none kV13 dc13 pm13 an13 cd13 ct13, F_beside_by := fun_mk (st := s_beside_by) l13 c13 k13, b_beside_by := (fun_mk (st := s_beside_by) l13 c13 k13).binds (ps := P_beside_by) (fun _ _ _ _ _ _ us hl => match us, hl with | [_, _], _ => rfl), m_beside_by := PySem.W.mg_of X G a13,
    a_beside_all := f14, fd_beside_all := PySem.W.fnOf "beside_all" "beside_all" (defArgs s_beside_all) (defBody s_beside_all) (defScope s_beside_all) .none kV14 dc14 pm14 an14 cd14 ct14, F_beside_all := fun_mk (st := s_beside_all) l14 c14 k14, b_beside_all := (fun_mk (st := s_beside_all) l14 c14 k14).binds (ps := P_beside_all) (fun _ _ _ _ _ _ us hl => match us, hl with | [_], _ => rfl), m_beside_all := PySem.W.mg_of X G a14,
    a_rows_beside := f15, fd_rows_beside := PySem.W.fnOf "rows_beside" "rows_beside" (defArgs s_rows_beside) (defBody s_rows_beside) (defScope s_rows_beside) .none kV15 dc15 pm15 an15 cd15 ct15, F_rows_beside := fun_mk (st := s_rows_beside) l15 c15 k15, b_rows_beside := (fun_mk (st := s_rows_beside) l15 c15 k15).binds (ps := P_rows_beside) (fun _ _ _ _ _ _ us hl => match us, hl with | [_, _], _ => rfl), m_rows_beside := PySem.W.mg_of X G a15,
    a_number_of := f16, fd_number_of := PySem.W.fnOf "number_of" "number_of" (defArgs s_number_of) (defBody s_number_of) (defScope s_number_of) .none kV16 dc16 pm16 an16 cd16 ct16, F_number_of := fun_mk (st := s_number_of) l16 c16 k16, b_number_of := (fun_mk (st := s_number_of) l16 c16 k16).binds (ps := P_number_of) (fun _ _ _ _ _ _ us hl => match us, hl with | [_, _], _ => rfl), m_number_of := PySem.W.mg_of X G a16,
    a_rows_tied := f17, fd_rows_tied := PySem.W.fnOf "rows_tied" "rows_tied" (defArgs s_rows_tied) (defBody s_rows_tied) (defScope s_rows_tied) .none kV17 dc17 pm17 an17 cd17 ct17, F_rows_tied := fun_mk (st := s_rows_tied) l17 c17 k17, b_rows_tied := (fun_mk (st := s_rows_tied) l17 c17 k17).binds (ps := P_rows_tied) (fun _ _ _ _ _ _ us hl => match us, hl with | [_, _, _], _ => rfl), m_rows_tied := PySem.W.mg_of X G a17,
    a_row_of := f18, fd_row_of := PySem.W.fnOf "row_of" "row_of" (defArgs s_row_of) (defBody s_row_of) (defScope s_row_of) .none kV18 dc18 pm18 an18 cd18 ct18, F_row_of := fun_mk (st := s_row_of) l18 c18 k18, b_row_of := (fun_mk (st := s_row_of) l18 c18 k18).binds (ps := P_row_of) (fun _ _ _ _ _ _ us hl => match us, hl with | [_, _], _ => rfl), m_row_of := PySem.W.mg_of X G a18,
    a__law_own := f19, fd__law_own := PySem.W.fnOf "_law_own" "_law_own" (defArgs s__law_own) (defBody s__law_own) (defScope s__law_own) .none kV19 dc19 pm19 an19 cd19 ct19, F__law_own := fun_mk (st := s__law_own) l19 c19 k19, b__law_own := (fun_mk (st := s__law_own) l19 c19 k19).binds (ps := P__law_own) (fun _ _ _ _ _ _ us hl => match us, hl with | [_, _], _ => rfl), m__law_own := PySem.W.mg_of X G a19,
    a_is_row := f20, fd_is_row := PySem.W.fnOf "is_row" "is_row" (defArgs s_is_row) (defBody s_is_row) (defScope s_is_row) .none kV20 dc20 pm20 an20 cd20 ct20, F_is_row := fun_mk (st := s_is_row) l20 c20 k20, b_is_row := (fun_mk (st := s_is_row) l20 c20 k20).binds (ps := P_is_row) (fun _ _ _ _ _ _ us hl => match us, hl with | [_, _], _ => rfl), m_is_row := PySem.W.mg_of X G a20,
    a__law_web_of := f21, fd__law_web_of := PySem.W.fnOf "_law_web_of" "_law_web_of" (defArgs s__law_web_of) (defBody s__law_web_of) (defScope s__law_web_of) .none kV21 dc21 pm21 an21 cd21 ct21, F__law_web_of := fun_mk (st := s__law_web_of) l21 c21 k21, b__law_web_of := (fun_mk (st := s__law_web_of) l21 c21 k21).binds (ps := P__law_web_of) (fun _ _ _ _ _ _ us hl => match us, hl with | [_, _], _ => rfl), m__law_web_of := PySem.W.mg_of X G a21,
    a__law_pool := f22, fd__law_pool := PySem.W.fnOf "_law_pool" "_law_pool" (defArgs s__law_pool) (defBody s__law_pool) (defScope s__law_pool) .none kV22 dc22 pm22 an22 cd22 ct22, F__law_pool := fun_mk (st := s__law_pool) l22 c22 k22, b__law_pool := (fun_mk (st := s__law_pool) l22 c22 k22).binds (ps := P__law_pool) (fun _ _ _ _ _ _ us hl => match us, hl with | [_, _], _ => rfl), m__law_pool := PySem.W.mg_of X G a22,
    a__law_loose := f23, fd__law_loose := PySem.W.fnOf "_law_loose" "_law_loose" (defArgs s__law_loose) (defBody s__law_loose) (defScope s__law_loose) .none kV23 dc23 pm23 an23 cd23 ct23, F__law_loose := fun_mk (st := s__law_loose) l23 c23 k23, b__law_loose := (fun_mk (st := s__law_loose) l23 c23 k23).binds (ps := P__law_loose) (fun _ _ _ _ _ _ us hl => match us, hl with | [_, _, _], _ => rfl), m__law_loose := PySem.W.mg_of X G a23,
    a__law_row_right := f24, fd__law_row_right := PySem.W.fnOf "_law_row_right" "_law_row_right" (defArgs s__law_row_right) (defBody s__law_row_right) (defScope s__law_row_right) .none kV24 dc24 pm24 an24 cd24 ct24, F__law_row_right := fun_mk (st := s__law_row_right) l24 c24 k24, b__law_row_right := (fun_mk (st := s__law_row_right) l24 c24 k24).binds (ps := P__law_row_right) (fun _ _ _ _ _ _ us hl => match us, hl with | [_, _, _], _ => rfl), m__law_row_right := PySem.W.mg_of X G a24,
    a__law_square := f25, fd__law_square := PySem.W.fnOf "_law_square" "_law_square" (defArgs s__law_square) (defBody s__law_square) (defScope s__law_square) .none kV25 dc25 pm25 an25 cd25 ct25, F__law_square := fun_mk (st := s__law_square) l25 c25 k25, b__law_square := (fun_mk (st := s__law_square) l25 c25 k25).binds (ps := P__law_square) (fun _ _ _ _ _ _ us hl => match us, hl with | [_, _, _, _], _ => rfl), m__law_square := PySem.W.mg_of X G a25,
    a_law := f26, fd_law := PySem.W.fnOf "law" "law" (defArgs s_law) (defBody s_law) (defScope s_law) .none kV26 dc26 pm26 an26 cd26 ct26, F_law := fun_mk (st := s_law) l26 c26 k26, b_law := (fun_mk (st := s_law) l26 c26 k26).binds (ps := P_law) (fun _ _ _ _ _ _ us hl => match us, hl with | [_], _ => rfl), m_law := PySem.W.mg_of X G a26,
    v_MOST_PLACES := .int 40 t0, m_MOST_PLACES := PySem.W.mg_of X G v0, q_MOST_PLACES := Cst.int,
    v_MOST_TIES := .int 120 t1, m_MOST_TIES := PySem.W.mg_of X G v1, q_MOST_TIES := Cst.int,
    v_MOST_WEBS := .int 12 t2, m_MOST_WEBS := PySem.W.mg_of X G v2, q_MOST_WEBS := Cst.int,
    z_len := PySem.W.mg_none_of X G z0,
    z_max := PySem.W.mg_none_of X G z1,
    z_list := PySem.W.mg_none_of X G z2,
    z_range := PySem.W.mg_none_of X G z3,
    z_sorted := PySem.W.mg_none_of X G z4,
    z_min := PySem.W.mg_none_of X G z5,
    z_isinstance := PySem.W.mg_none_of X G z6,
    z_int := PySem.W.mg_none_of X G z7,
    z_bool := PySem.W.mg_none_of X G z8,
    z_tuple := PySem.W.mg_none_of X G z9,
    z_enumerate := PySem.W.mg_none_of X G z10,
    z_all := PySem.W.mg_none_of X G z11,
    z_zip := PySem.W.mg_none_of X G z12 }
theorem all_mk {l : PySem.W.OpenLaw} {fa : Addr} (X : K.In h) (G : h.Ns mainGlobals mg) (hfa : mg "law" = some (.ref fa))
    {f0 : Addr} {od0 an0 : Option Addr} {sl0 : Array (Option Value)} {oc0 kV0 dc0 pm0 cd0 ct0 : Value}
    {f1 : Addr} {od1 an1 : Option Addr} {sl1 : Array (Option Value)} {oc1 kV1 dc1 pm1 cd1 ct1 : Value}
    {f2 : Addr} {od2 an2 : Option Addr} {sl2 : Array (Option Value)} {oc2 kV2 dc2 pm2 cd2 ct2 : Value}
    {f3 : Addr} {od3 an3 : Option Addr} {sl3 : Array (Option Value)} {oc3 kV3 dc3 pm3 cd3 ct3 : Value}
    {f4 : Addr} {od4 an4 : Option Addr} {sl4 : Array (Option Value)} {oc4 kV4 dc4 pm4 cd4 ct4 : Value}
    {f5 : Addr} {od5 an5 : Option Addr} {sl5 : Array (Option Value)} {oc5 kV5 dc5 pm5 cd5 ct5 : Value}
    {f6 : Addr} {od6 an6 : Option Addr} {sl6 : Array (Option Value)} {oc6 kV6 dc6 pm6 cd6 ct6 : Value}
    {f7 : Addr} {od7 an7 : Option Addr} {sl7 : Array (Option Value)} {oc7 kV7 dc7 pm7 cd7 ct7 : Value}
    {f8 : Addr} {od8 an8 : Option Addr} {sl8 : Array (Option Value)} {oc8 kV8 dc8 pm8 cd8 ct8 : Value}
    {f9 : Addr} {od9 an9 : Option Addr} {sl9 : Array (Option Value)} {oc9 kV9 dc9 pm9 cd9 ct9 : Value}
    {f10 : Addr} {od10 an10 : Option Addr} {sl10 : Array (Option Value)} {oc10 kV10 dc10 pm10 cd10 ct10 : Value}
    {f11 : Addr} {od11 an11 : Option Addr} {sl11 : Array (Option Value)} {oc11 kV11 dc11 pm11 cd11 ct11 : Value}
    {f12 : Addr} {od12 an12 : Option Addr} {sl12 : Array (Option Value)} {oc12 kV12 dc12 pm12 cd12 ct12 : Value}
    {f13 : Addr} {od13 an13 : Option Addr} {sl13 : Array (Option Value)} {oc13 kV13 dc13 pm13 cd13 ct13 : Value}
    {f14 : Addr} {od14 an14 : Option Addr} {sl14 : Array (Option Value)} {oc14 kV14 dc14 pm14 cd14 ct14 : Value}
    {f15 : Addr} {od15 an15 : Option Addr} {sl15 : Array (Option Value)} {oc15 kV15 dc15 pm15 cd15 ct15 : Value}
    {f16 : Addr} {od16 an16 : Option Addr} {sl16 : Array (Option Value)} {oc16 kV16 dc16 pm16 cd16 ct16 : Value}
    {f17 : Addr} {od17 an17 : Option Addr} {sl17 : Array (Option Value)} {oc17 kV17 dc17 pm17 cd17 ct17 : Value}
    {f18 : Addr} {od18 an18 : Option Addr} {sl18 : Array (Option Value)} {oc18 kV18 dc18 pm18 cd18 ct18 : Value}
    {f19 : Addr} {od19 an19 : Option Addr} {sl19 : Array (Option Value)} {oc19 kV19 dc19 pm19 cd19 ct19 : Value}
    {f20 : Addr} {od20 an20 : Option Addr} {sl20 : Array (Option Value)} {oc20 kV20 dc20 pm20 cd20 ct20 : Value}
    {f21 : Addr} {od21 an21 : Option Addr} {sl21 : Array (Option Value)} {oc21 kV21 dc21 pm21 cd21 ct21 : Value}
    {f22 : Addr} {od22 an22 : Option Addr} {sl22 : Array (Option Value)} {oc22 kV22 dc22 pm22 cd22 ct22 : Value}
    {f23 : Addr} {od23 an23 : Option Addr} {sl23 : Array (Option Value)} {oc23 kV23 dc23 pm23 cd23 ct23 : Value}
    {f24 : Addr} {od24 an24 : Option Addr} {sl24 : Array (Option Value)} {oc24 kV24 dc24 pm24 cd24 ct24 : Value}
    {f25 : Addr} {od25 an25 : Option Addr} {sl25 : Array (Option Value)} {oc25 kV25 dc25 pm25 cd25 ct25 : Value}
    {f26 : Addr} {od26 an26 : Option Addr} {sl26 : Array (Option Value)} {oc26 kV26 dc26 pm26 cd26 ct26 : Value}
    {t0 : Tok}
    {t1 : Tok}
    {t2 : Tok}
    (a0 : PySem.W.nsIn K mainGlobals "_law_take" = some (some (.ref f0))) (l0 : K.lookup f0 = some ⟨oc0, od0, .func (PySem.W.fnOf "_law_take" "_law_take" (defArgs s__law_take) (defBody s__law_take) (defScope s__law_take) .none kV0 dc0 pm0 an0 cd0 ct0), sl0⟩) (c0 : PySem.W.codeIn K cd0 "_law_take" = true) (k0 : PySem.W.keepIn K (.ref f0) = true)
    (a1 : PySem.W.nsIn K mainGlobals "_law_web" = some (some (.ref f1))) (l1 : K.lookup f1 = some ⟨oc1, od1, .func (PySem.W.fnOf "_law_web" "_law_web" (defArgs s__law_web) (defBody s__law_web) (defScope s__law_web) .none kV1 dc1 pm1 an1 cd1 ct1), sl1⟩) (c1 : PySem.W.codeIn K cd1 "_law_web" = true) (k1 : PySem.W.keepIn K (.ref f1) = true)
    (a2 : PySem.W.nsIn K mainGlobals "is_whole" = some (some (.ref f2))) (l2 : K.lookup f2 = some ⟨oc2, od2, .func (PySem.W.fnOf "is_whole" "is_whole" (defArgs s_is_whole) (defBody s_is_whole) (defScope s_is_whole) .none kV2 dc2 pm2 an2 cd2 ct2), sl2⟩) (c2 : PySem.W.codeIn K cd2 "is_whole" = true) (k2 : PySem.W.keepIn K (.ref f2) = true)
    (a3 : PySem.W.nsIn K mainGlobals "is_within" = some (some (.ref f3))) (l3 : K.lookup f3 = some ⟨oc3, od3, .func (PySem.W.fnOf "is_within" "is_within" (defArgs s_is_within) (defBody s_is_within) (defScope s_is_within) .none kV3 dc3 pm3 an3 cd3 ct3), sl3⟩) (c3 : PySem.W.codeIn K cd3 "is_within" = true) (k3 : PySem.W.keepIn K (.ref f3) = true)
    (a4 : PySem.W.nsIn K mainGlobals "is_tie" = some (some (.ref f4))) (l4 : K.lookup f4 = some ⟨oc4, od4, .func (PySem.W.fnOf "is_tie" "is_tie" (defArgs s_is_tie) (defBody s_is_tie) (defScope s_is_tie) .none kV4 dc4 pm4 an4 cd4 ct4), sl4⟩) (c4 : PySem.W.codeIn K cd4 "is_tie" = true) (k4 : PySem.W.keepIn K (.ref f4) = true)
    (a5 : PySem.W.nsIn K mainGlobals "look_at_web" = some (some (.ref f5))) (l5 : K.lookup f5 = some ⟨oc5, od5, .func (PySem.W.fnOf "look_at_web" "look_at_web" (defArgs s_look_at_web) (defBody s_look_at_web) (defScope s_look_at_web) .none kV5 dc5 pm5 an5 cd5 ct5), sl5⟩) (c5 : PySem.W.codeIn K cd5 "look_at_web" = true) (k5 : PySem.W.keepIn K (.ref f5) = true)
    (a6 : PySem.W.nsIn K mainGlobals "look_at_webs" = some (some (.ref f6))) (l6 : K.lookup f6 = some ⟨oc6, od6, .func (PySem.W.fnOf "look_at_webs" "look_at_webs" (defArgs s_look_at_webs) (defBody s_look_at_webs) (defScope s_look_at_webs) .none kV6 dc6 pm6 an6 cd6 ct6), sl6⟩) (c6 : PySem.W.codeIn K cd6 "look_at_webs" = true) (k6 : PySem.W.keepIn K (.ref f6) = true)
    (a7 : PySem.W.nsIn K mainGlobals "is_row_in" = some (some (.ref f7))) (l7 : K.lookup f7 = some ⟨oc7, od7, .func (PySem.W.fnOf "is_row_in" "is_row_in" (defArgs s_is_row_in) (defBody s_is_row_in) (defScope s_is_row_in) .none kV7 dc7 pm7 an7 cd7 ct7), sl7⟩) (c7 : PySem.W.codeIn K cd7 "is_row_in" = true) (k7 : PySem.W.keepIn K (.ref f7) = true)
    (a8 : PySem.W.nsIn K mainGlobals "look_at_row" = some (some (.ref f8))) (l8 : K.lookup f8 = some ⟨oc8, od8, .func (PySem.W.fnOf "look_at_row" "look_at_row" (defArgs s_look_at_row) (defBody s_look_at_row) (defScope s_look_at_row) .none kV8 dc8 pm8 an8 cd8 ct8), sl8⟩) (c8 : PySem.W.codeIn K cd8 "look_at_row" = true) (k8 : PySem.W.keepIn K (.ref f8) = true)
    (a9 : PySem.W.nsIn K mainGlobals "number_in" = some (some (.ref f9))) (l9 : K.lookup f9 = some ⟨oc9, od9, .func (PySem.W.fnOf "number_in" "number_in" (defArgs s_number_in) (defBody s_number_in) (defScope s_number_in) .none kV9 dc9 pm9 an9 cd9 ct9), sl9⟩) (c9 : PySem.W.codeIn K cd9 "number_in" = true) (k9 : PySem.W.keepIn K (.ref f9) = true)
    (a10 : PySem.W.nsIn K mainGlobals "row_in" = some (some (.ref f10))) (l10 : K.lookup f10 = some ⟨oc10, od10, .func (PySem.W.fnOf "row_in" "row_in" (defArgs s_row_in) (defBody s_row_in) (defScope s_row_in) .none kV10 dc10 pm10 an10 cd10 ct10), sl10⟩) (c10 : PySem.W.codeIn K cd10 "row_in" = true) (k10 : PySem.W.keepIn K (.ref f10) = true)
    (a11 : PySem.W.nsIn K mainGlobals "places_in" = some (some (.ref f11))) (l11 : K.lookup f11 = some ⟨oc11, od11, .func (PySem.W.fnOf "places_in" "places_in" (defArgs s_places_in) (defBody s_places_in) (defScope s_places_in) .none kV11 dc11 pm11 an11 cd11 ct11), sl11⟩) (c11 : PySem.W.codeIn K cd11 "places_in" = true) (k11 : PySem.W.keepIn K (.ref f11) = true)
    (a12 : PySem.W.nsIn K mainGlobals "tied_in" = some (some (.ref f12))) (l12 : K.lookup f12 = some ⟨oc12, od12, .func (PySem.W.fnOf "tied_in" "tied_in" (defArgs s_tied_in) (defBody s_tied_in) (defScope s_tied_in) .none kV12 dc12 pm12 an12 cd12 ct12), sl12⟩) (c12 : PySem.W.codeIn K cd12 "tied_in" = true) (k12 : PySem.W.keepIn K (.ref f12) = true)
    (a13 : PySem.W.nsIn K mainGlobals "beside_by" = some (some (.ref f13))) (l13 : K.lookup f13 = some ⟨oc13, od13, .func (PySem.W.fnOf "beside_by" "beside_by" (defArgs s_beside_by) (defBody s_beside_by) (defScope s_beside_by) .none kV13 dc13 pm13 an13 cd13 ct13), sl13⟩) (c13 : PySem.W.codeIn K cd13 "beside_by" = true) (k13 : PySem.W.keepIn K (.ref f13) = true)
    (a14 : PySem.W.nsIn K mainGlobals "beside_all" = some (some (.ref f14))) (l14 : K.lookup f14 = some ⟨oc14, od14, .func (PySem.W.fnOf "beside_all" "beside_all" (defArgs s_beside_all) (defBody s_beside_all) (defScope s_beside_all) .none kV14 dc14 pm14 an14 cd14 ct14), sl14⟩) (c14 : PySem.W.codeIn K cd14 "beside_all" = true) (k14 : PySem.W.keepIn K (.ref f14) = true)
    (a15 : PySem.W.nsIn K mainGlobals "rows_beside" = some (some (.ref f15))) (l15 : K.lookup f15 = some ⟨oc15, od15, .func (PySem.W.fnOf "rows_beside" "rows_beside" (defArgs s_rows_beside) (defBody s_rows_beside) (defScope s_rows_beside) .none kV15 dc15 pm15 an15 cd15 ct15), sl15⟩) (c15 : PySem.W.codeIn K cd15 "rows_beside" = true) (k15 : PySem.W.keepIn K (.ref f15) = true)
    (a16 : PySem.W.nsIn K mainGlobals "number_of" = some (some (.ref f16))) (l16 : K.lookup f16 = some ⟨oc16, od16, .func (PySem.W.fnOf "number_of" "number_of" (defArgs s_number_of) (defBody s_number_of) (defScope s_number_of) .none kV16 dc16 pm16 an16 cd16 ct16), sl16⟩) (c16 : PySem.W.codeIn K cd16 "number_of" = true) (k16 : PySem.W.keepIn K (.ref f16) = true)
    (a17 : PySem.W.nsIn K mainGlobals "rows_tied" = some (some (.ref f17))) (l17 : K.lookup f17 = some ⟨oc17, od17, .func (PySem.W.fnOf "rows_tied" "rows_tied" (defArgs s_rows_tied) (defBody s_rows_tied) (defScope s_rows_tied) .none kV17 dc17 pm17 an17 cd17 ct17), sl17⟩) (c17 : PySem.W.codeIn K cd17 "rows_tied" = true) (k17 : PySem.W.keepIn K (.ref f17) = true)
    (a18 : PySem.W.nsIn K mainGlobals "row_of" = some (some (.ref f18))) (l18 : K.lookup f18 = some ⟨oc18, od18, .func (PySem.W.fnOf "row_of" "row_of" (defArgs s_row_of) (defBody s_row_of) (defScope s_row_of) .none kV18 dc18 pm18 an18 cd18 ct18), sl18⟩) (c18 : PySem.W.codeIn K cd18 "row_of" = true) (k18 : PySem.W.keepIn K (.ref f18) = true)
    (a19 : PySem.W.nsIn K mainGlobals "_law_own" = some (some (.ref f19))) (l19 : K.lookup f19 = some ⟨oc19, od19, .func (PySem.W.fnOf "_law_own" "_law_own" (defArgs s__law_own) (defBody s__law_own) (defScope s__law_own) .none kV19 dc19 pm19 an19 cd19 ct19), sl19⟩) (c19 : PySem.W.codeIn K cd19 "_law_own" = true) (k19 : PySem.W.keepIn K (.ref f19) = true)
    (a20 : PySem.W.nsIn K mainGlobals "is_row" = some (some (.ref f20))) (l20 : K.lookup f20 = some ⟨oc20, od20, .func (PySem.W.fnOf "is_row" "is_row" (defArgs s_is_row) (defBody s_is_row) (defScope s_is_row) .none kV20 dc20 pm20 an20 cd20 ct20), sl20⟩) (c20 : PySem.W.codeIn K cd20 "is_row" = true) (k20 : PySem.W.keepIn K (.ref f20) = true)
    (a21 : PySem.W.nsIn K mainGlobals "_law_web_of" = some (some (.ref f21))) (l21 : K.lookup f21 = some ⟨oc21, od21, .func (PySem.W.fnOf "_law_web_of" "_law_web_of" (defArgs s__law_web_of) (defBody s__law_web_of) (defScope s__law_web_of) .none kV21 dc21 pm21 an21 cd21 ct21), sl21⟩) (c21 : PySem.W.codeIn K cd21 "_law_web_of" = true) (k21 : PySem.W.keepIn K (.ref f21) = true)
    (a22 : PySem.W.nsIn K mainGlobals "_law_pool" = some (some (.ref f22))) (l22 : K.lookup f22 = some ⟨oc22, od22, .func (PySem.W.fnOf "_law_pool" "_law_pool" (defArgs s__law_pool) (defBody s__law_pool) (defScope s__law_pool) .none kV22 dc22 pm22 an22 cd22 ct22), sl22⟩) (c22 : PySem.W.codeIn K cd22 "_law_pool" = true) (k22 : PySem.W.keepIn K (.ref f22) = true)
    (a23 : PySem.W.nsIn K mainGlobals "_law_loose" = some (some (.ref f23))) (l23 : K.lookup f23 = some ⟨oc23, od23, .func (PySem.W.fnOf "_law_loose" "_law_loose" (defArgs s__law_loose) (defBody s__law_loose) (defScope s__law_loose) .none kV23 dc23 pm23 an23 cd23 ct23), sl23⟩) (c23 : PySem.W.codeIn K cd23 "_law_loose" = true) (k23 : PySem.W.keepIn K (.ref f23) = true)
    (a24 : PySem.W.nsIn K mainGlobals "_law_row_right" = some (some (.ref f24))) (l24 : K.lookup f24 = some ⟨oc24, od24, .func (PySem.W.fnOf "_law_row_right" "_law_row_right" (defArgs s__law_row_right) (defBody s__law_row_right) (defScope s__law_row_right) .none kV24 dc24 pm24 an24 cd24 ct24), sl24⟩) (c24 : PySem.W.codeIn K cd24 "_law_row_right" = true) (k24 : PySem.W.keepIn K (.ref f24) = true)
    (a25 : PySem.W.nsIn K mainGlobals "_law_square" = some (some (.ref f25))) (l25 : K.lookup f25 = some ⟨oc25, od25, .func (PySem.W.fnOf "_law_square" "_law_square" (defArgs s__law_square) (defBody s__law_square) (defScope s__law_square) .none kV25 dc25 pm25 an25 cd25 ct25), sl25⟩) (c25 : PySem.W.codeIn K cd25 "_law_square" = true) (k25 : PySem.W.keepIn K (.ref f25) = true)
    (a26 : PySem.W.nsIn K mainGlobals "law" = some (some (.ref f26))) (l26 : K.lookup f26 = some ⟨oc26, od26, .func (PySem.W.fnOf "law" "law" (defArgs s_law) (defBody s_law) (defScope s_law) .none kV26 dc26 pm26 an26 cd26 ct26), sl26⟩) (c26 : PySem.W.codeIn K cd26 "law" = true) (k26 : PySem.W.keepIn K (.ref f26) = true)
    (v0 : PySem.W.nsIn K mainGlobals "MOST_PLACES" = some (some (.int 40 t0)))
    (v1 : PySem.W.nsIn K mainGlobals "MOST_TIES" = some (some (.int 120 t1)))
    (v2 : PySem.W.nsIn K mainGlobals "MOST_WEBS" = some (some (.int 12 t2)))
    (z0 : PySem.W.nsIn K mainGlobals "len" = some none)
    (z1 : PySem.W.nsIn K mainGlobals "max" = some none)
    (z2 : PySem.W.nsIn K mainGlobals "list" = some none)
    (z3 : PySem.W.nsIn K mainGlobals "range" = some none)
    (z4 : PySem.W.nsIn K mainGlobals "sorted" = some none)
    (z5 : PySem.W.nsIn K mainGlobals "min" = some none)
    (z6 : PySem.W.nsIn K mainGlobals "isinstance" = some none)
    (z7 : PySem.W.nsIn K mainGlobals "int" = some none)
    (z8 : PySem.W.nsIn K mainGlobals "bool" = some none)
    (z9 : PySem.W.nsIn K mainGlobals "tuple" = some none)
    (z10 : PySem.W.nsIn K mainGlobals "enumerate" = some none)
    (z11 : PySem.W.nsIn K mainGlobals "all" = some none)
    (z12 : PySem.W.nsIn K mainGlobals "zip" = some none) :
    ∃ fd : FuncData, (∀ (s : Shared) (v : Value), BindsTo s fd ⟨[v], []⟩ [("script", v)]) ∧ ∀ base : Heap, K.In base → base.Ns mainGlobals mg → FnG l.prog w K mg base 8 fa fd ["script"] (spF mg 1 WT.G_law_k15) := by
  have e := hfa.symm.trans (PySem.W.mg_of X G a26)
  cases e
  exact ⟨PySem.W.fnOf "law" "law" (defArgs s_law) (defBody s_law) (defScope s_law) .none kV26 dc26 pm26 an26 cd26 ct26, fun s v => .of_eq rfl, fun base _ _ => ok_law (mkTxt X G a0 l0 c0 k0 a1 l1 c1 k1 a2 l2 c2 k2 a3 l3 c3 k3 a4 l4 c4 k4 a5 l5 c5 k5 a6 l6 c6 k6 a7 l7 c7 k7 a8 l8 c8 k8 a9 l9 c9 k9 a10 l10 c10 k10 a11 l11 c11 k11 a12 l12 c12 k12 a13 l13 c13 k13 a14 l14 c14 k14 a15 l15 c15 k15 a16 l16 c16 k16 a17 l17 c17 k17 a18 l18 c18 k18 a19 l19 c19 k19 a20 l20 c20 k20 a21 l21 c21 k21 a22 l22 c22 k22 a23 l23 c23 k23 a24 l24 c24 k24 a25 l25 c25 k25 a26 l26 c26 k26 v0 v1 v2 z0 z1 z2 z3 z4 z5 z6 z7 z8 z9 z10 z11 z12)⟩
end
end Xk15
open PySem PySem.W PyProof.Rows
set_option maxHeartbeats 0 in
theorem PySem.Challenge.cw_webtimes_k15_whole_walks_among_rows_holds : PySem.Challenge.rw_webtimes_k15_whole_walks_among_rows.Holds := by
  w_on; o_law; k_head; (case hw => w_witness2)
  k_fill
  refine DS.walk_ofG (l := PySem.Challenge.rw_webtimes_k15_whole_walks_among_rows) (n := 63) (k := 8) (x := "script") (G := WT.G_law_k15) rfl (by decide) rfl ⟨rfl, by decide, by decide⟩ (fun w h Y => PySem.W.kIn_of Y) ?noL ?F WT.law_k15_true
  case noL => intro w; first | kernel_rfl | with_unfolding_all rfl
  case F =>
    intro w mg fa h KX G hmg
    refine' Xk15.all_mk KX G hmg ?a0 ?l0 ?c0 ?k0 ?a1 ?l1 ?c1 ?k1 ?a2 ?l2 ?c2 ?k2 ?a3 ?l3 ?c3 ?k3 ?a4 ?l4 ?c4 ?k4 ?a5 ?l5 ?c5 ?k5 ?a6 ?l6 ?c6 ?k6 ?a7 ?l7 ?c7 ?k7 ?a8 ?l8 ?c8 ?k8 ?a9 ?l9 ?c9 ?k9 ?a10 ?l10 ?c10 ?k10 ?a11 ?l11 ?c11 ?k11 ?a12 ?l12 ?c12 ?k12 ?a13 ?l13 ?c13 ?k13 ?a14 ?l14 ?c14 ?k14 ?a15 ?l15 ?c15 ?k15 ?a16 ?l16 ?c16 ?k16 ?a17 ?l17 ?c17 ?k17 ?a18 ?l18 ?c18 ?k18 ?a19 ?l19 ?c19 ?k19 ?a20 ?l20 ?c20 ?k20 ?a21 ?l21 ?c21 ?k21 ?a22 ?l22 ?c22 ?k22 ?a23 ?l23 ?c23 ?k23 ?a24 ?l24 ?c24 ?k24 ?a25 ?l25 ?c25 ?k25 ?a26 ?l26 ?c26 ?k26 ?v0 ?v1 ?v2 ?z0 ?z1 ?z2 ?z3 ?z4 ?z5 ?z6 ?z7 ?z8 ?z9 ?z10 ?z11 ?z12
    (case a0 => k_is); (case l0 => k_is); (case c0 => k_is); (case k0 => k_is); (case a1 => k_is); (case l1 => k_is); (case c1 => k_is); (case k1 => k_is); (case a2 => k_is); (case l2 => k_is); (case c2 => k_is); (case k2 => k_is); (case a3 => k_is); (case l3 => k_is); (case c3 => k_is); (case k3 => k_is); (case a4 => k_is); (case l4 => k_is); (case c4 => k_is); (case k4 => k_is); (case a5 => k_is); (case l5 => k_is); (case c5 => k_is); (case k5 => k_is); (case a6 => k_is); (case l6 => k_is); (case c6 => k_is); (case k6 => k_is); (case a7 => k_is); (case l7 => k_is); (case c7 => k_is); (case k7 => k_is); (case a8 => k_is); (case l8 => k_is); (case c8 => k_is); (case k8 => k_is); (case a9 => k_is); (case l9 => k_is); (case c9 => k_is); (case k9 => k_is); (case a10 => k_is); (case l10 => k_is); (case c10 => k_is); (case k10 => k_is); (case a11 => k_is); (case l11 => k_is); (case c11 => k_is); (case k11 => k_is); (case a12 => k_is); (case l12 => k_is); (case c12 => k_is); (case k12 => k_is); (case a13 => k_is); (case l13 => k_is); (case c13 => k_is); (case k13 => k_is); (case a14 => k_is); (case l14 => k_is); (case c14 => k_is); (case k14 => k_is); (case a15 => k_is); (case l15 => k_is); (case c15 => k_is); (case k15 => k_is); (case a16 => k_is); (case l16 => k_is); (case c16 => k_is); (case k16 => k_is); (case a17 => k_is); (case l17 => k_is); (case c17 => k_is); (case k17 => k_is); (case a18 => k_is); (case l18 => k_is); (case c18 => k_is); (case k18 => k_is); (case a19 => k_is); (case l19 => k_is); (case c19 => k_is); (case k19 => k_is); (case a20 => k_is); (case l20 => k_is); (case c20 => k_is); (case k20 => k_is); (case a21 => k_is); (case l21 => k_is); (case c21 => k_is); (case k21 => k_is); (case a22 => k_is); (case l22 => k_is); (case c22 => k_is); (case k22 => k_is); (case a23 => k_is); (case l23 => k_is); (case c23 => k_is); (case k23 => k_is); (case a24 => k_is); (case l24 => k_is); (case c24 => k_is); (case k24 => k_is); (case a25 => k_is); (case l25 => k_is); (case c25 => k_is); (case k25 => k_is); (case a26 => k_is); (case l26 => k_is); (case c26 => k_is); (case k26 => k_is); (case v0 => k_is); (case v1 => k_is); (case v2 => k_is); (case z0 => k_is); (case z1 => k_is); (case z2 => k_is); (case z3 => k_is); (case z4 => k_is); (case z5 => k_is); (case z6 => k_is); (case z7 => k_is); (case z8 => k_is); (case z9 => k_is); (case z10 => k_is); (case z11 => k_is); (case z12 => k_is)
